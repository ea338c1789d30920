import PyProof.Rows.All
import Wide.All
import OpenK.AllK
import Wide.FinOn
import HandS.ForMost
import HandS.Star
import HandS.Gcd
import HandS.Wide
import HandS.IsInst
import HandS.ExcOwn
import HandS.Flow
import HandS.WordsExc
import PyProof.ListRange
import PyProof.RangeFor
import HandS.SortInts
import HandS.WordsDict
import HandS.ExcInit
import HandS.ExcIs
import HandS.ExcField
import HandS.ClsMeth
import HandS.TryOnly
import HandS.ExcCtx
import HandS.WrittenGet
import HandS.HotCalls
import HandS.CallSlots
import HandS.Deep
import PySem.Challenge.RW_fairstart_k29_games_and_outcomes
set_option Elab.async false
set_option linter.all false
set_option maxRecDepth 100000
set_option maxHeartbeats 4000000
/-! Values as plain data, and readings of code over plain data: no heap in sight. -/
namespace FS
open PySem PySem.Spec PyProof.Rows L2

/-- plain data -/
inductive D where
  | non
  | bl (b : Bool)
  | int (i : Int)
  | str (x : Str)
  | tup (l : List D)
  | lst (l : List D)
  | scr (ns : List Int)
  | ty (n : String)
  | obj (a : Addr)
  | ins (C : Addr) (ns : List Str) (ds : List D)
  | exc (a : Addr) (od : Option Addr) (ns : List Str) (ds : List D)
  | dic (ks : List Key) (ds : List D)
  /-- an instance that is being made -/
  | slf (a C : Addr) (ns : List Str) (ds : List D)
  /-- in an open tree: a part that is known -/
  | kn (d : D)

mutual
/-- v stands for d -/
def Is (K : PySem.W.Frag) (H : Hp) : D → V → Prop
  | .non, v => v = .non
  | .bl b, v => v = .bl b
  | .int i, v => v = .int i
  | .str x, v => v = .str x
  | .tup l, v => ∃ a vs, v = .ref a ∧ SqT K H a vs ∧ IsL K H l vs
  | .lst l, v => ∃ a vs, v = .ref a ∧ H a = some (.lst vs) ∧ IsL K H l vs
  | .scr ns, v => ∃ a, v = .ref a ∧ SqL K H a (ns.map V.int)
  | .ty n, v => v = .ty n
  | .obj a, v => v = .ref a
  | .ins C ns l, v => ∃ a dx vs, v = .ref a ∧ H a = some (.ins C dx (ns.zip vs)) ∧ IsL K H l vs
  | .exc a od ns l, v => v = .ref a ∧ ((ns = [] ∧ od = none) ∨ ∃ d vs, od = some d ∧ H d = some (.xd (ns.zip vs)) ∧ IsL K H l vs)
  | .dic ks l, v => ∃ a vs, v = .ref a ∧ H a = some (.dK (ks.zip vs)) ∧ IsL K H l vs
  | .slf a C ns l, v => v = .ref a ∧ ∃ dx vs, H a = some (.ins C dx (ns.zip vs)) ∧ IsL K H l vs
  | .kn d, v => Is K H d v
def IsL (K : PySem.W.Frag) (H : Hp) : List D → List V → Prop
  | [], vs => vs = []
  | d :: l, vs => ∃ v r, vs = v :: r ∧ Is K H d v ∧ IsL K H l r
end

theorem same_t {K : PySem.W.Frag} {H H' : Hp} {a : Addr} {xs : List V} (e : Same H H') (h : SqT K H a xs) : SqT K H' a xs := by
  rcases h with (h | ⟨o, h⟩) | h
  · exact .inl (.inl (e _ _ h))
  · exact .inl (.inr ⟨o, e _ _ h⟩)
  · exact .inr h
mutual
theorem Is.mono {K : PySem.W.Frag} {H H' : Hp} (e : Same H H') : ∀ (d : D) (v : V), Is K H d v → Is K H' d v
  | .non, _, h => h
  | .bl _, _, h => h
  | .int _, _, h => h
  | .str _, _, h => h
  | .tup l, v, ⟨a, vs, h1, h2, h3⟩ => ⟨a, vs, h1, same_t e h2, IsL.mono e l vs h3⟩
  | .lst l, v, ⟨a, vs, h1, h2, h3⟩ => ⟨a, vs, h1, e _ _ h2, IsL.mono e l vs h3⟩
  | .scr ns, v, ⟨a, h1, h2⟩ => ⟨a, h1, e.seq h2⟩
  | .ty _, _, h => h
  | .obj _, _, h => h
  | .ins C ns l, v, ⟨a, dx, vs, h1, h2, h3⟩ => ⟨a, dx, vs, h1, e _ _ h2, IsL.mono e l vs h3⟩
  | .exc a od ns l, v, ⟨h1, .inl h2⟩ => ⟨h1, .inl h2⟩
  | .exc a od ns l, v, ⟨h1, .inr ⟨d, vs, h2, h3, h4⟩⟩ => ⟨h1, .inr ⟨d, vs, h2, e _ _ h3, IsL.mono e l vs h4⟩⟩
  | .dic ks l, v, ⟨a, vs, h1, h2, h3⟩ => ⟨a, vs, h1, e _ _ h2, IsL.mono e l vs h3⟩
  | .slf a C ns l, v, ⟨h0, dx, vs, h2, h3⟩ => ⟨h0, dx, vs, e _ _ h2, IsL.mono e l vs h3⟩
  | .kn d, v, h => Is.mono e d v (show Is K H d v from h)
theorem IsL.mono {K : PySem.W.Frag} {H H' : Hp} (e : Same H H') : ∀ (l : List D) (vs : List V), IsL K H l vs → IsL K H' l vs
  | [], _, h => h
  | d :: l, vs, ⟨v, r, h1, h2, h3⟩ => ⟨v, r, h1, Is.mono e d v h2, IsL.mono e l r h3⟩
end
theorem Is.up {K : PySem.W.Frag} {H H' : Hp} {d : D} {v : V} (h : Is K H d v) (e : Same H H') : Is K H' d v := Is.mono e d v h
theorem IsL.up {K : PySem.W.Frag} {H H' : Hp} {l : List D} {vs : List V} (h : IsL K H l vs) (e : Same H H') : IsL K H' l vs := IsL.mono e l vs h

section
variable {K : PySem.W.Frag} {H : Hp}
theorem IsL.len : ∀ {l : List D} {vs : List V}, IsL K H l vs → vs.length = l.length
  | [], _, h => by rw [show _ = [] from h] <;> rfl
  | _ :: l, _, ⟨v, r, e, _, h⟩ => by rw [e, List.length_cons, List.length_cons, IsL.len h]
theorem IsL.get : ∀ {l : List D} {vs : List V} {i : Nat} {d : D}, IsL K H l vs → l[i]? = some d → ∃ v, vs[i]? = some v ∧ Is K H d v
  | [], _, _, _, _, e => by simp at e
  | _ :: _, _, 0, _, ⟨v, r, e, h, _⟩, q => by
    rw [e]
    have q : _ = _ := Option.some.inj q
    exact ⟨v, rfl, q ▸ h⟩
  | _ :: l, _, i + 1, d, ⟨v, r, e, _, h⟩, q => by
    rw [e]
    obtain ⟨u, h1, h2⟩ := IsL.get (i := i) (d := d) h (by simpa using q)
    exact ⟨u, by simpa using h1, h2⟩
theorem IsL.got : ∀ {l : List D} {vs : List V} {i : Nat} {v : V}, IsL K H l vs → vs[i]? = some v → ∃ d, l[i]? = some d ∧ Is K H d v := fun {l vs i v} h e => by
  have hl := h.len
  have hi := (List.getElem?_eq_some_iff.mp e).1
  have hd : l[i]? = some (l[i]'(by omega)) := List.getElem?_eq_getElem (by omega)
  obtain ⟨u, h1, h2⟩ := h.get hd
  rw [e] at h1
  have q : v = u := Option.some.inj h1
  exact ⟨_, hd, q ▸ h2⟩
theorem IsL.app : ∀ {l l' : List D} {vs us : List V}, IsL K H l vs → IsL K H l' us → IsL K H (l ++ l') (vs ++ us)
  | [], _, _, _, h, h' => by rw [show _ = [] from h]; exact h'
  | d :: l, _, _, _, ⟨v, r, e, h1, h2⟩, h' => by rw [e]; exact ⟨v, r ++ _, rfl, h1, IsL.app h2 h'⟩
theorem IsL.one {d : D} {v : V} (h : Is K H d v) : IsL K H [d] [v] := ⟨v, [], rfl, h, rfl⟩
theorem IsL.cons {d : D} {v : V} {l : List D} {vs : List V} (h : Is K H d v) (h' : IsL K H l vs) : IsL K H (d :: l) (v :: vs) := ⟨v, vs, rfl, h, h'⟩
theorem IsL.set {d : D} {v : V} (h : Is K H d v) : ∀ {l : List D} {vs : List V} (i : Nat), IsL K H l vs → IsL K H (l.set i d) (vs.set i v)
  | [], _, _, e => by rw [show _ = [] from e]; exact (rfl : [] = [])
  | _ :: _, _, 0, ⟨u, r, e, _, h2⟩ => by rw [e]; exact ⟨v, r, rfl, h, h2⟩
  | _ :: _, _, i + 1, ⟨u, r, e, h1, h2⟩ => by rw [e]; exact ⟨u, r.set i v, rfl, h1, IsL.set h i h2⟩
theorem IsL.take : ∀ {l : List D} {vs : List V} (n : Nat), IsL K H l vs → IsL K H (l.take n) (vs.take n)
  | [], _, n, e => by rw [show _ = [] from e]; simp [IsL]
  | _ :: _, _, 0, _ => by simp [IsL]
  | _ :: _, _, n + 1, ⟨u, r, e, h1, h2⟩ => by rw [e]; exact ⟨u, r.take n, rfl, h1, IsL.take n h2⟩
theorem IsL.drop : ∀ {l : List D} {vs : List V} (n : Nat), IsL K H l vs → IsL K H (l.drop n) (vs.drop n)
  | [], _, n, e => by rw [show _ = [] from e]; simp [IsL]
  | _ :: _, _, 0, h => by simpa using h
  | _ :: _, _, n + 1, ⟨u, r, e, h1, h2⟩ => by rw [e]; simpa using IsL.drop n h2
theorem IsL.dropLast {l : List D} {vs : List V} (h : IsL K H l vs) : IsL K H l.dropLast vs.dropLast := by
  rw [List.dropLast_eq_take, List.dropLast_eq_take, h.len]
  exact h.take _
/-- data of plain ints, of plain things: the values are known -/
theorem isL_ints (ns : List Int) : IsL K H (ns.map D.int) (ns.map V.int) := by
  induction ns with
  | nil => exact (rfl : [] = [])
  | cons n r ih => exact ⟨_, _, rfl, rfl, ih⟩
theorem isL_ints_inv : ∀ {ns : List Int} {vs : List V}, IsL K H (ns.map D.int) vs → vs = ns.map V.int
  | [], _, h => h
  | n :: r, _, ⟨v, q, e, h1, h2⟩ => by rw [e, show v = V.int n from h1, isL_ints_inv h2] <;> rfl
end

/-! ### what is open: objects that somebody will still change -/
abbrev Op := List (Addr × HO)
/-- H: what is known and stays; T: the heap as it stands; M: what is open, with what it holds -/
structure Opn (H T : Hp) (M : Op) : Prop where
  same : Same H T
  free : ∀ x ∈ M, H x.1 = none
  at_ : ∀ x ∈ M, T x.1 = some x.2
  nd : (M.map (·.1)).Nodup
section
variable {H H' T T' : Hp} {M N : Op} {p : Addr} {o o' : HO}
theorem Opn.fresh (h : Opn H T M) (hp : T p = none) : H p = none := h.same.free hp
theorem Opn.fresh_ne (h : Opn H T M) (hp : T p = none) : ∀ x ∈ M, x.1 ≠ p := fun x hx e => by
  have := h.at_ x hx
  rw [e, hp] at this
  cases this
theorem same_new {H : Hp} {p : Addr} {o : HO} (h : H p = none) : Same H (upd H p o) := fun b x e => by
  rw [upd_ne (ne_of_none e h)]
  exact e
/-- a new object, known at once -/
theorem Opn.new (h : Opn H T M) (hp : T p = none) : Opn (upd H p o) (upd T p o) M where
  same := fun b x e => by
    by_cases hb : b = p
    · subst hb
      rw [upd_same] at e ⊢
      exact e
    · rw [upd_ne hb] at e ⊢
      exact h.same b x e
  free := fun x hx => by
    rw [upd_ne (h.fresh_ne hp x hx)]
    exact h.free x hx
  at_ := fun x hx => by
    rw [upd_ne (h.fresh_ne hp x hx)]
    exact h.at_ x hx
  nd := h.nd
/-- a new object, open -/
theorem Opn.opened (h : Opn H T M) (hp : T p = none) : Opn H (upd T p o) ((p, o) :: M) where
  same := h.same.trans (same_new hp)
  free := fun x hx => by
    rcases List.mem_cons.mp hx with rfl | hx
    · exact h.fresh hp
    · exact h.free x hx
  at_ := fun x hx => by
    rcases List.mem_cons.mp hx with rfl | hx
    · exact upd_same
    · rw [upd_ne (h.fresh_ne hp x hx)]
      exact h.at_ x hx
  nd := by
    rw [List.map_cons, List.nodup_cons]
    refine ⟨fun hm => ?_, h.nd⟩
    obtain ⟨x, hx, e⟩ := List.mem_map.mp hm
    exact h.fresh_ne hp x hx e
theorem Opn.ne_head (h : Opn H T ((p, o) :: M)) : ∀ x ∈ M, x.1 ≠ p := fun x hx e => by
  have := (List.nodup_cons.mp h.nd).1
  exact this (List.mem_map.mpr ⟨x, hx, e⟩)
theorem Opn.tail (h : Opn H T ((p, o) :: M)) : Opn H T M where
  same := h.same
  free := fun x hx => h.free x (List.mem_cons_of_mem _ hx)
  at_ := fun x hx => h.at_ x (List.mem_cons_of_mem _ hx)
  nd := (List.nodup_cons.mp h.nd).2
/-- the first open object is done: it is known from now on -/
theorem Opn.close (h : Opn H T ((p, o) :: M)) : Same H (upd H p o) ∧ Opn (upd H p o) T M := by
  have hp : H p = none := h.free _ List.mem_cons_self
  refine ⟨same_new hp, ?_, ?_, ?_, h.tail.nd⟩
  · intro b x e
    by_cases hb : b = p
    · subst hb
      rw [upd_same] at e
      rw [← e]
      exact h.at_ _ List.mem_cons_self
    · rw [upd_ne hb] at e
      exact h.same b x e
  · intro x hx
    rw [upd_ne (h.ne_head x hx)]
    exact h.tail.free x hx
  · exact h.tail.at_
/-- the first open object is written -/
theorem Opn.write (h : Opn H T ((p, o) :: M)) : Opn H (upd T p o') ((p, o') :: M) where
  same := fun b x e => by
    rw [upd_ne (ne_of_none e (h.free _ List.mem_cons_self))]
    exact h.same b x e
  free := fun x hx => by
    rcases List.mem_cons.mp hx with rfl | hx
    · exact h.free (p, o) List.mem_cons_self
    · exact h.tail.free x hx
  at_ := fun x hx => by
    rcases List.mem_cons.mp hx with rfl | hx
    · exact upd_same
    · rw [upd_ne (h.ne_head x hx)]
      exact h.tail.at_ x hx
  nd := h.nd
theorem Opn.perm (h : Opn H T M) (e : List.Perm M N) : Opn H T N where
  same := h.same
  free := fun x hx => h.free x (e.mem_iff.mpr hx)
  at_ := fun x hx => h.at_ x (e.mem_iff.mpr hx)
  nd := (e.map (·.1)).nodup_iff.mp h.nd
theorem Opn.sub (h : Opn H T M) (e : List.Sublist N M) : Opn H T N where
  same := h.same
  free := fun x hx => h.free x (e.subset hx)
  at_ := fun x hx => h.at_ x (e.subset hx)
  nd := h.nd.sublist (e.map (·.1))
end

/-! ### open trees: data whose objects are open, L, but for the known parts -/
mutual
def IsC (K : PySem.W.Frag) (H : Hp) : D → V → Op → Prop
  | .non, v, L => v = .non ∧ L = []
  | .bl b, v, L => v = .bl b ∧ L = []
  | .int i, v, L => v = .int i ∧ L = []
  | .str x, v, L => v = .str x ∧ L = []
  | .tup l, v, L => ∃ a vs Ls, v = .ref a ∧ L = (a, .tup vs) :: Ls ∧ IsCL K H l vs Ls
  | .lst l, v, L => ∃ a vs Ls, v = .ref a ∧ L = (a, .lst vs) :: Ls ∧ IsCL K H l vs Ls
  | .scr _, _, _ => False
  | .ty n, v, L => v = .ty n ∧ L = []
  | .obj a, v, L => v = .ref a ∧ L = []
  | .exc _ _ _ _, _, _ => False
  | .ins C ns l, v, L => ∃ a dx vs Ls, v = .ref a ∧ L = (a, .ins C dx (ns.zip vs)) :: (dx, .own a) :: Ls ∧ IsCL K H l vs Ls
  | .dic ks l, v, L => ∃ a vs Ls, v = .ref a ∧ L = (a, .dK (ks.zip vs)) :: Ls ∧ IsCL K H l vs Ls
  | .slf a C ns l, v, L => v = .ref a ∧ ∃ dx vs Ls, L = (a, .ins C dx (ns.zip vs)) :: (dx, .own a) :: Ls ∧ IsCL K H l vs Ls
  | .kn d, v, L => Is K H d v ∧ L = []
def IsCL (K : PySem.W.Frag) (H : Hp) : List D → List V → Op → Prop
  | [], vs, L => vs = [] ∧ L = []
  | d :: l, vs, L => ∃ v r L1 L2, vs = v :: r ∧ L = L1 ++ L2 ∧ IsC K H d v L1 ∧ IsCL K H l r L2
end
mutual
theorem IsC.mono {K : PySem.W.Frag} {H H' : Hp} (e : Same H H') : ∀ (d : D) (v : V) (L : Op), IsC K H d v L → IsC K H' d v L
  | .non, _, _, h => h
  | .bl _, _, _, h => h
  | .int _, _, _, h => h
  | .str _, _, _, h => h
  | .tup l, _, _, ⟨a, vs, Ls, h1, h2, h⟩ => ⟨a, vs, Ls, h1, h2, IsCL.mono e l vs Ls h⟩
  | .lst l, _, _, ⟨a, vs, Ls, h1, h2, h⟩ => ⟨a, vs, Ls, h1, h2, IsCL.mono e l vs Ls h⟩
  | .scr _, _, _, h => h
  | .ty _, _, _, h => h
  | .obj _, _, _, h => h
  | .exc _ _ _ _, _, _, h => h
  | .ins C ns l, _, _, ⟨a, dx, vs, Ls, h1, h2, h⟩ => ⟨a, dx, vs, Ls, h1, h2, IsCL.mono e l vs Ls h⟩
  | .dic ks l, _, _, ⟨a, vs, Ls, h1, h2, h⟩ => ⟨a, vs, Ls, h1, h2, IsCL.mono e l vs Ls h⟩
  | .slf a C ns l, _, _, ⟨h0, dx, vs, Ls, h2, h⟩ => ⟨h0, dx, vs, Ls, h2, IsCL.mono e l vs Ls h⟩
  | .kn d, _, _, ⟨h1, h2⟩ => ⟨h1.up e, h2⟩
theorem IsCL.mono {K : PySem.W.Frag} {H H' : Hp} (e : Same H H') : ∀ (l : List D) (vs : List V) (L : Op), IsCL K H l vs L → IsCL K H' l vs L
  | [], _, _, h => h
  | d :: l, _, _, ⟨v, r, L1, L2, h1, h2, h3, h4⟩ => ⟨v, r, L1, L2, h1, h2, IsC.mono e d v L1 h3, IsCL.mono e l r L2 h4⟩
end
theorem IsC.up {K : PySem.W.Frag} {H H' : Hp} {d : D} {v : V} {L : Op} (h : IsC K H d v L) (e : Same H H') : IsC K H' d v L := IsC.mono e d v L h
theorem IsCL.up {K : PySem.W.Frag} {H H' : Hp} {l : List D} {vs : List V} {L : Op} (h : IsCL K H l vs L) (e : Same H H') : IsCL K H' l vs L := IsCL.mono e l vs L h
mutual
theorem IsC.is {K : PySem.W.Frag} {H : Hp} : ∀ (d : D) (v : V) (L : Op), IsC K H d v L → (∀ x ∈ L, H x.1 = some x.2) → Is K H d v
  | .non, _, _, h, _ => h.1
  | .bl _, _, _, h, _ => h.1
  | .int _, _, _, h, _ => h.1
  | .str _, _, _, h, _ => h.1
  | .tup l, _, _, ⟨a, vs, Ls, e, eL, h⟩, q => ⟨a, vs, e, .inl (.inl (q (a, .tup vs) (by rw [eL]; exact List.mem_cons_self))), IsCL.is l vs Ls h fun x hx => q x (by rw [eL]; exact List.mem_cons_of_mem _ hx)⟩
  | .lst l, _, _, ⟨a, vs, Ls, e, eL, h⟩, q => ⟨a, vs, e, q (a, .lst vs) (by rw [eL]; exact List.mem_cons_self), IsCL.is l vs Ls h fun x hx => q x (by rw [eL]; exact List.mem_cons_of_mem _ hx)⟩
  | .scr _, _, _, h, _ => h.elim
  | .ty _, _, _, h, _ => h.1
  | .obj _, _, _, h, _ => h.1
  | .exc _ _ _ _, _, _, h, _ => h.elim
  | .ins C ns l, _, _, ⟨a, dx, vs, Ls, e, eL, h⟩, q => ⟨a, dx, vs, e, q (a, .ins C dx (ns.zip vs)) (by rw [eL]; exact List.mem_cons_self), IsCL.is l vs Ls h fun x hx => q x (by rw [eL]; exact List.mem_cons_of_mem _ (List.mem_cons_of_mem _ hx))⟩
  | .dic ks l, _, _, ⟨a, vs, Ls, e, eL, h⟩, q => ⟨a, vs, e, q (a, .dK (ks.zip vs)) (by rw [eL]; exact List.mem_cons_self), IsCL.is l vs Ls h fun x hx => q x (by rw [eL]; exact List.mem_cons_of_mem _ hx)⟩
  | .slf a C ns l, _, _, ⟨e, dx, vs, Ls, eL, h⟩, q => ⟨e, dx, vs, q (a, .ins C dx (ns.zip vs)) (by rw [eL]; exact List.mem_cons_self), IsCL.is l vs Ls h fun x hx => q x (by rw [eL]; exact List.mem_cons_of_mem _ (List.mem_cons_of_mem _ hx))⟩
  | .kn _, _, _, h, _ => h.1
theorem IsCL.is {K : PySem.W.Frag} {H : Hp} : ∀ (l : List D) (vs : List V) (L : Op), IsCL K H l vs L → (∀ x ∈ L, H x.1 = some x.2) → IsL K H l vs
  | [], _, _, h, _ => h.1
  | d :: l, _, _, ⟨v, r, L1, L2, e, eL, h1, h2⟩, q => ⟨v, r, e, IsC.is d v L1 h1 fun x hx => q x (by rw [eL]; exact List.mem_append_left _ hx), IsCL.is l r L2 h2 fun x hx => q x (by rw [eL]; exact List.mem_append_right _ hx)⟩
end
/-! the marks of known parts dropped -/
mutual
def D.er : D → D
  | .tup l => .tup (D.erL l)
  | .lst l => .lst (D.erL l)
  | .ins C ns l => .ins C ns (D.erL l)
  | .exc a od ns l => .exc a od ns (D.erL l)
  | .dic ks l => .dic ks (D.erL l)
  | .slf _ C ns l => .ins C ns (D.erL l)
  | .kn d => d
  | .non => .non
  | .bl b => .bl b
  | .int i => .int i
  | .str x => .str x
  | .scr ns => .scr ns
  | .ty n => .ty n
  | .obj a => .obj a
def D.erL : List D → List D
  | [] => []
  | d :: l => d.er :: D.erL l
end
mutual
theorem Is.er {K : PySem.W.Frag} {H : Hp} : ∀ (d : D) (v : V), Is K H d v → Is K H d.er v
  | .tup l, _, ⟨a, vs, h1, h2, h3⟩ => ⟨a, vs, h1, h2, IsL.er l vs h3⟩
  | .lst l, _, ⟨a, vs, h1, h2, h3⟩ => ⟨a, vs, h1, h2, IsL.er l vs h3⟩
  | .ins C ns l, _, ⟨a, dx, vs, h1, h2, h3⟩ => ⟨a, dx, vs, h1, h2, IsL.er l vs h3⟩
  | .exc a od ns l, _, ⟨h1, .inl h2⟩ => ⟨h1, .inl h2⟩
  | .exc a od ns l, _, ⟨h1, .inr ⟨d, vs, h2, h3, h4⟩⟩ => ⟨h1, .inr ⟨d, vs, h2, h3, IsL.er l vs h4⟩⟩
  | .dic ks l, _, ⟨a, vs, h1, h2, h3⟩ => ⟨a, vs, h1, h2, IsL.er l vs h3⟩
  | .slf a C ns l, _, ⟨h0, dx, vs, h2, h3⟩ => ⟨a, dx, vs, h0, h2, IsL.er l vs h3⟩
  | .kn d, v, h => h
  | .non, _, h => h
  | .bl _, _, h => h
  | .int _, _, h => h
  | .str _, _, h => h
  | .scr _, _, h => h
  | .ty _, _, h => h
  | .obj _, _, h => h
theorem IsL.er {K : PySem.W.Frag} {H : Hp} : ∀ (l : List D) (vs : List V), IsL K H l vs → IsL K H (D.erL l) vs
  | [], _, h => h
  | d :: l, _, ⟨v, r, e, h1, h2⟩ => ⟨v, r, e, Is.er d v h1, IsL.er l r h2⟩
end
section
variable {K : PySem.W.Frag} {H : Hp}
theorem IsCL.len : ∀ {l : List D} {vs : List V} {L : Op}, IsCL K H l vs L → vs.length = l.length
  | [], _, _, h => by rw [h.1] <;> rfl
  | _ :: _, _, _, ⟨v, r, L1, L2, e, eL, h1, h2⟩ => by rw [e, List.length_cons, List.length_cons, IsCL.len h2]
theorem IsCL.app : ∀ {l l' : List D} {vs us : List V} {L L' : Op}, IsCL K H l vs L → IsCL K H l' us L' → IsCL K H (l ++ l') (vs ++ us) (L ++ L')
  | [], _, _, _, _, _, h, h' => by rw [h.1, h.2]; exact h'
  | d :: l, _, _, _, _, _, ⟨v, r, L1, L2, e, eL, h1, h2⟩, h' => by
    rw [e, eL, List.append_assoc]
    exact ⟨v, r ++ _, L1, L2 ++ _, rfl, rfl, h1, IsCL.app h2 h'⟩
theorem IsCL.one {d : D} {v : V} {L : Op} (h : IsC K H d v L) : IsCL K H [d] [v] L := ⟨v, [], L, [], rfl, by simp, h, rfl, rfl⟩
theorem IsCL.cons {d : D} {v : V} {l : List D} {vs : List V} {L L' : Op} (h : IsC K H d v L) (h' : IsCL K H l vs L') : IsCL K H (d :: l) (v :: vs) (L ++ L') := ⟨v, vs, L, L', rfl, rfl, h, h'⟩
/-- one part of a row of trees, and how it may be changed -/
theorem IsCL.part : ∀ {l : List D} {vs : List V} {L : Op} {i : Nat} {d : D}, IsCL K H l vs L → l[i]? = some d → ∃ u Ls L1 L2, vs[i]? = some u ∧ IsC K H d u Ls ∧ L = L1 ++ (Ls ++ L2) ∧
    ∀ H' d' u' Ls', Same H H' → IsC K H' d' u' Ls' → IsCL K H' (l.set i d') (vs.set i u') (L1 ++ (Ls' ++ L2))
  | [], _, _, _, _, _, e => by simp at e
  | x :: l, _, _, 0, d, ⟨v, r, L1, L2, e, eL, h1, h2⟩, q => by
    have q : x = d := Option.some.inj q
    subst q
    rw [e, eL]
    exact ⟨v, L1, [], L2, rfl, h1, rfl, fun H' d' u' Ls' s h' => ⟨u', r, Ls', L2, rfl, rfl, h', h2.up s⟩⟩
  | x :: l, _, _, i + 1, d, ⟨v, r, L1, L2, e, eL, h1, h2⟩, q => by
    obtain ⟨u, Ls, M1, M2, g1, g2, g3, g4⟩ := IsCL.part (i := i) (d := d) h2 (by simpa using q)
    rw [e, eL]
    refine ⟨u, Ls, L1 ++ M1, M2, by simpa using g1, g2, by rw [g3, List.append_assoc], fun H' d' u' Ls' s h' => ⟨v, r.set i u', L1, M1 ++ (Ls' ++ M2), rfl, by rw [List.append_assoc], h1.up s, g4 H' d' u' Ls' s h'⟩⟩
/-- the part of d at a path -/
def D.at : List Nat → D → Option D
  | [], d => some d
  | i :: π, .tup l => (l[i]?).bind (D.at π)
  | i :: π, .lst l => (l[i]?).bind (D.at π)
  | i :: π, .ins _ ns l => if i < ns.length then (l[i]?).bind (D.at π) else none
  | i :: π, .slf _ _ ns l => if i < ns.length then (l[i]?).bind (D.at π) else none
  | i :: π, .dic ks l => if i < ks.length then (l[i]?).bind (D.at π) else none
  | _ :: _, _ => none
def D.put : List Nat → D → D → D
  | [], _, s => s
  | i :: π, .tup l, s => .tup (l.modify i fun d => D.put π d s)
  | i :: π, .lst l, s => .lst (l.modify i fun d => D.put π d s)
  | i :: π, .ins C ns l, s => .ins C ns (l.modify i fun d => D.put π d s)
  | i :: π, .slf a C ns l, s => .slf a C ns (l.modify i fun d => D.put π d s)
  | i :: π, .dic ks l, s => .dic ks (l.modify i fun d => D.put π d s)
  | _ :: _, d, _ => d
theorem modify_set {α : Type} {l : List α} {i : Nat} {d : α} (f : α → α) (h : l[i]? = some d) : l.modify i f = l.set i (f d) := by
  refine List.ext_getElem? fun j => ?_
  rw [List.getElem?_modify, List.getElem?_set]
  by_cases e : i = j
  · subst e
    have hi := (List.getElem?_eq_some_iff.mp h).1
    rw [h]
    simp [hi]
  · simp [e]
theorem set_same {α : Type} {l : List α} {i : Nat} {d : α} (h : l[i]? = some d) : l.set i d = l := by
  refine List.ext_getElem? fun j => ?_
  rw [List.getElem?_set]
  by_cases e : i = j
  · subst e
    have hi := (List.getElem?_eq_some_iff.mp h).1
    rw [if_pos rfl, if_pos hi, h]
  · rw [if_neg e]
/-- u stands at the path below v -/
def Nav (T : Hp) : List Nat → V → V → Prop
  | [], v, u => v = u
  | i :: π, v, u => ∃ a w, v = .ref a ∧ ((∃ vs, (T a = some (.lst vs) ∨ T a = some (.tup vs)) ∧ vs[i]? = some w) ∨ (∃ C dx fs n, T a = some (.ins C dx fs) ∧ fs[i]? = some (n, w)) ∨ (∃ kvs k, T a = some (.dK kvs) ∧ kvs[i]? = some (k, w))) ∧ Nav T π w u
theorem Nav.up {T T' : Hp} (s : Same T T') : ∀ {π : List Nat} {v u : V}, Nav T π v u → Nav T' π v u
  | [], _, _, h => h
  | i :: π, _, _, ⟨a, w, e, h, n⟩ => by
    refine ⟨a, w, e, ?_, Nav.up s n⟩
    rcases h with ⟨vs, h, q⟩ | ⟨C, dx, fs, nm, h, q⟩ | ⟨kvs, k, h, q⟩
    · exact .inl ⟨vs, h.imp (s _ _) (s _ _), q⟩
    · exact .inr (.inl ⟨C, dx, fs, nm, s _ _ h, q⟩)
    · exact .inr (.inr ⟨kvs, k, s _ _ h, q⟩)
theorem Nav.eq {T : Hp} : ∀ {π : List Nat} {v u u' : V}, Nav T π v u → Nav T π v u' → u = u'
  | [], _, _, _, h, h' => h.symm.trans h'
  | i :: π, _, _, _, ⟨a, w, e, h, n⟩, ⟨a', w', e', h', n'⟩ => by
    have ea : a = a' := by rw [e] at e'; exact V.ref.inj e'
    subst ea
    have ew : w = w' := by
      rcases h with ⟨vs, h, q⟩ | ⟨C, dx, fs, nm, h, q⟩ | ⟨kvs, k, h, q⟩
      · rcases h' with ⟨vs', h', q'⟩ | ⟨C', dx', fs', nm', h', q'⟩ | ⟨kvs', k', h', q'⟩
        · have : vs = vs' := by
            rcases h with h | h <;> rcases h' with h' | h' <;> (rw [h] at h'; cases h' <;> rfl)
          rw [this, q'] at q
          exact (Option.some.inj q).symm
        · rcases h with h | h <;> (rw [h] at h'; cases h')
        · rcases h with h | h <;> (rw [h] at h'; cases h')
      · rcases h' with ⟨vs', h', q'⟩ | ⟨C', dx', fs', nm', h', q'⟩ | ⟨kvs', k', h', q'⟩
        · rcases h' with h' | h' <;> (rw [h] at h'; cases h')
        · rw [h] at h'
          cases h'
          rw [q] at q'
          exact (Prod.mk.inj (Option.some.inj q')).2
        · rw [h] at h'; cases h'
      · rcases h' with ⟨vs', h', q'⟩ | ⟨C', dx', fs', nm', h', q'⟩ | ⟨kvs', k', h', q'⟩
        · rcases h' with h' | h' <;> (rw [h] at h'; cases h')
        · rw [h] at h'; cases h'
        · rw [h] at h'
          cases h'
          rw [q] at q'
          exact (Prod.mk.inj (Option.some.inj q')).2
    subst ew
    exact Nav.eq n n'
theorem zip_get {α β : Type} {l : List α} {r : List β} {i : Nat} {w : β} (hi : i < l.length) (h : r[i]? = some w) : ∃ n, (l.zip r)[i]? = some (n, w) := by
  refine ⟨l[i], ?_⟩
  rw [List.getElem?_zip_eq_some]
  exact ⟨List.getElem?_eq_getElem hi, h⟩
/-- the part at a path of an open tree: where it stands, and how it may be changed in place -/
theorem IsC.focus : ∀ {π : List Nat} {d s : D} {v : V} {L : Op}, IsC K H d v L → D.at π d = some s → ∃ u Ls L0, IsC K H s u Ls ∧ List.Perm L (Ls ++ L0) ∧ (∀ T : Hp, (∀ x ∈ L, T x.1 = some x.2) → Nav T π v u) ∧
    ∀ H' s' Ls', Same H H' → IsC K H' s' u Ls' → ∃ L', IsC K H' (D.put π d s') v L' ∧ List.Perm L' (Ls' ++ L0)
  | [], d, s, v, L, h, e => by
    have e : d = s := Option.some.inj e
    subst e
    exact ⟨v, L, [], h, by rw [List.append_nil], fun T _ => rfl, fun H' s' Ls' _ h' => ⟨Ls', h', by rw [List.append_nil]⟩⟩
  | i :: π, d, s, v, L, h, e => by
    cases d with
    | tup l =>
      obtain ⟨a, vs, Lt, rfl, rfl, hl⟩ := h
      obtain ⟨x, hx, e⟩ := Option.bind_eq_some_iff.mp (show (l[i]?).bind (D.at π) = some s from e)
      obtain ⟨w, Lw, L1, L2, g1, g2, g3, g4⟩ := hl.part hx
      obtain ⟨u, Ls, L0, k1, k2, k3, k4⟩ := IsC.focus g2 e
      subst g3
      refine ⟨u, Ls, (a, .tup vs) :: (L0 ++ (L1 ++ L2)), k1, ?_, fun T hT => ⟨a, w, rfl, .inl ⟨vs, .inr (hT (a, .tup vs) List.mem_cons_self), g1⟩, k3 T fun x hx => hT x (List.mem_cons_of_mem _ (List.mem_append_right _ (List.mem_append_left _ hx)))⟩, fun H' s' Ls' sm h' => ?_⟩
      · refine (List.Perm.cons _ ?_).trans List.perm_middle.symm
        refine List.Perm.trans ?_ (show List.Perm ((Ls ++ L0) ++ (L1 ++ L2)) (Ls ++ (L0 ++ (L1 ++ L2))) by rw [List.append_assoc])
        refine List.Perm.trans ?_ (k2.append_right (L1 ++ L2))
        refine List.Perm.trans ?_ (show List.Perm ((Lw ++ L1) ++ L2) (Lw ++ (L1 ++ L2)) by rw [List.append_assoc])
        rw [← List.append_assoc]
        exact List.perm_append_comm.append_right _
      · obtain ⟨L', q1, q2⟩ := k4 H' s' Ls' sm h'
        have q3 := g4 H' _ _ _ sm q1
        rw [set_same g1] at q3
        refine ⟨(a, .tup vs) :: (L1 ++ (L' ++ L2)), ⟨a, vs, _, rfl, rfl, by rw [modify_set _ hx]; exact q3⟩, ?_⟩
        refine (List.Perm.cons _ ?_).trans List.perm_middle.symm
        refine List.Perm.trans ?_ (show List.Perm ((Ls' ++ L0) ++ (L1 ++ L2)) (Ls' ++ (L0 ++ (L1 ++ L2))) by rw [List.append_assoc])
        refine List.Perm.trans ?_ (q2.append_right (L1 ++ L2))
        refine List.Perm.trans ?_ (show List.Perm ((L' ++ L1) ++ L2) (L' ++ (L1 ++ L2)) by rw [List.append_assoc])
        rw [← List.append_assoc]
        exact List.perm_append_comm.append_right _
    | lst l =>
      obtain ⟨a, vs, Lt, rfl, rfl, hl⟩ := h
      obtain ⟨x, hx, e⟩ := Option.bind_eq_some_iff.mp (show (l[i]?).bind (D.at π) = some s from e)
      obtain ⟨w, Lw, L1, L2, g1, g2, g3, g4⟩ := hl.part hx
      obtain ⟨u, Ls, L0, k1, k2, k3, k4⟩ := IsC.focus g2 e
      subst g3
      refine ⟨u, Ls, (a, .lst vs) :: (L0 ++ (L1 ++ L2)), k1, ?_, fun T hT => ⟨a, w, rfl, .inl ⟨vs, .inl (hT (a, .lst vs) List.mem_cons_self), g1⟩, k3 T fun x hx => hT x (List.mem_cons_of_mem _ (List.mem_append_right _ (List.mem_append_left _ hx)))⟩, fun H' s' Ls' sm h' => ?_⟩
      · refine (List.Perm.cons _ ?_).trans List.perm_middle.symm
        refine List.Perm.trans ?_ (show List.Perm ((Ls ++ L0) ++ (L1 ++ L2)) (Ls ++ (L0 ++ (L1 ++ L2))) by rw [List.append_assoc])
        refine List.Perm.trans ?_ (k2.append_right (L1 ++ L2))
        refine List.Perm.trans ?_ (show List.Perm ((Lw ++ L1) ++ L2) (Lw ++ (L1 ++ L2)) by rw [List.append_assoc])
        rw [← List.append_assoc]
        exact List.perm_append_comm.append_right _
      · obtain ⟨L', q1, q2⟩ := k4 H' s' Ls' sm h'
        have q3 := g4 H' _ _ _ sm q1
        rw [set_same g1] at q3
        refine ⟨(a, .lst vs) :: (L1 ++ (L' ++ L2)), ⟨a, vs, _, rfl, rfl, by rw [modify_set _ hx]; exact q3⟩, ?_⟩
        refine (List.Perm.cons _ ?_).trans List.perm_middle.symm
        refine List.Perm.trans ?_ (show List.Perm ((Ls' ++ L0) ++ (L1 ++ L2)) (Ls' ++ (L0 ++ (L1 ++ L2))) by rw [List.append_assoc])
        refine List.Perm.trans ?_ (q2.append_right (L1 ++ L2))
        refine List.Perm.trans ?_ (show List.Perm ((L' ++ L1) ++ L2) (L' ++ (L1 ++ L2)) by rw [List.append_assoc])
        rw [← List.append_assoc]
        exact List.perm_append_comm.append_right _
    | ins C ns l =>
      obtain ⟨a, dx, vs, Lt, rfl, rfl, hl⟩ := h
      have e : (if i < ns.length then (l[i]?).bind (D.at π) else none) = some s := e
      by_cases hi : i < ns.length
      · rw [if_pos hi] at e
        obtain ⟨x, hx, e⟩ := Option.bind_eq_some_iff.mp e
        obtain ⟨w, Lw, L1, L2, g1, g2, g3, g4⟩ := hl.part hx
        obtain ⟨u, Ls, L0, k1, k2, k3, k4⟩ := IsC.focus g2 e
        obtain ⟨nm, hz⟩ := zip_get hi g1
        subst g3
        refine ⟨u, Ls, (a, .ins C dx (ns.zip vs)) :: (dx, .own a) :: (L0 ++ (L1 ++ L2)), k1, ?_, fun T hT => ⟨a, w, rfl, .inr (.inl ⟨C, dx, _, nm, hT (a, .ins C dx (ns.zip vs)) List.mem_cons_self, hz⟩), k3 T fun x hx => hT x (List.mem_cons_of_mem _ (List.mem_cons_of_mem _ (List.mem_append_right _ (List.mem_append_left _ hx))))⟩, fun H' s' Ls' sm h' => ?_⟩
        · refine (List.Perm.cons _ ?_).trans List.perm_middle.symm
          refine (List.Perm.cons _ ?_).trans List.perm_middle.symm
          refine List.Perm.trans ?_ (show List.Perm ((Ls ++ L0) ++ (L1 ++ L2)) (Ls ++ (L0 ++ (L1 ++ L2))) by rw [List.append_assoc])
          refine List.Perm.trans ?_ (k2.append_right (L1 ++ L2))
          refine List.Perm.trans ?_ (show List.Perm ((Lw ++ L1) ++ L2) (Lw ++ (L1 ++ L2)) by rw [List.append_assoc])
          rw [← List.append_assoc]
          exact List.perm_append_comm.append_right _
        · obtain ⟨L', q1, q2⟩ := k4 H' s' Ls' sm h'
          have q3 := g4 H' _ _ _ sm q1
          rw [set_same g1] at q3
          refine ⟨(a, .ins C dx (ns.zip vs)) :: (dx, .own a) :: (L1 ++ (L' ++ L2)), ⟨a, dx, vs, _, rfl, rfl, by rw [modify_set _ hx]; exact q3⟩, ?_⟩
          refine (List.Perm.cons _ ?_).trans List.perm_middle.symm
          refine (List.Perm.cons _ ?_).trans List.perm_middle.symm
          refine List.Perm.trans ?_ (show List.Perm ((Ls' ++ L0) ++ (L1 ++ L2)) (Ls' ++ (L0 ++ (L1 ++ L2))) by rw [List.append_assoc])
          refine List.Perm.trans ?_ (q2.append_right (L1 ++ L2))
          refine List.Perm.trans ?_ (show List.Perm ((L' ++ L1) ++ L2) (L' ++ (L1 ++ L2)) by rw [List.append_assoc])
          rw [← List.append_assoc]
          exact List.perm_append_comm.append_right _
      · rw [if_neg hi] at e
        cases e
    | slf a C ns l =>
      obtain ⟨rfl, dx, vs, Lt, rfl, hl⟩ := h
      have e : (if i < ns.length then (l[i]?).bind (D.at π) else none) = some s := e
      by_cases hi : i < ns.length
      · rw [if_pos hi] at e
        obtain ⟨x, hx, e⟩ := Option.bind_eq_some_iff.mp e
        obtain ⟨w, Lw, L1, L2, g1, g2, g3, g4⟩ := hl.part hx
        obtain ⟨u, Ls, L0, k1, k2, k3, k4⟩ := IsC.focus g2 e
        obtain ⟨nm, hz⟩ := zip_get hi g1
        subst g3
        refine ⟨u, Ls, (a, .ins C dx (ns.zip vs)) :: (dx, .own a) :: (L0 ++ (L1 ++ L2)), k1, ?_, fun T hT => ⟨a, w, rfl, .inr (.inl ⟨C, dx, _, nm, hT (a, .ins C dx (ns.zip vs)) List.mem_cons_self, hz⟩), k3 T fun x hx => hT x (List.mem_cons_of_mem _ (List.mem_cons_of_mem _ (List.mem_append_right _ (List.mem_append_left _ hx))))⟩, fun H' s' Ls' sm h' => ?_⟩
        · refine (List.Perm.cons _ ?_).trans List.perm_middle.symm
          refine (List.Perm.cons _ ?_).trans List.perm_middle.symm
          refine List.Perm.trans ?_ (show List.Perm ((Ls ++ L0) ++ (L1 ++ L2)) (Ls ++ (L0 ++ (L1 ++ L2))) by rw [List.append_assoc])
          refine List.Perm.trans ?_ (k2.append_right (L1 ++ L2))
          refine List.Perm.trans ?_ (show List.Perm ((Lw ++ L1) ++ L2) (Lw ++ (L1 ++ L2)) by rw [List.append_assoc])
          rw [← List.append_assoc]
          exact List.perm_append_comm.append_right _
        · obtain ⟨L', q1, q2⟩ := k4 H' s' Ls' sm h'
          have q3 := g4 H' _ _ _ sm q1
          rw [set_same g1] at q3
          refine ⟨(a, .ins C dx (ns.zip vs)) :: (dx, .own a) :: (L1 ++ (L' ++ L2)), ⟨rfl, dx, vs, _, rfl, by rw [modify_set _ hx]; exact q3⟩, ?_⟩
          refine (List.Perm.cons _ ?_).trans List.perm_middle.symm
          refine (List.Perm.cons _ ?_).trans List.perm_middle.symm
          refine List.Perm.trans ?_ (show List.Perm ((Ls' ++ L0) ++ (L1 ++ L2)) (Ls' ++ (L0 ++ (L1 ++ L2))) by rw [List.append_assoc])
          refine List.Perm.trans ?_ (q2.append_right (L1 ++ L2))
          refine List.Perm.trans ?_ (show List.Perm ((L' ++ L1) ++ L2) (L' ++ (L1 ++ L2)) by rw [List.append_assoc])
          rw [← List.append_assoc]
          exact List.perm_append_comm.append_right _
      · rw [if_neg hi] at e
        cases e
    | dic ks l =>
      obtain ⟨a, vs, Lt, rfl, rfl, hl⟩ := h
      have e : (if i < ks.length then (l[i]?).bind (D.at π) else none) = some s := e
      by_cases hi : i < ks.length
      · rw [if_pos hi] at e
        obtain ⟨x, hx, e⟩ := Option.bind_eq_some_iff.mp e
        obtain ⟨w, Lw, L1, L2, g1, g2, g3, g4⟩ := hl.part hx
        obtain ⟨u, Ls, L0, k1, k2, k3, k4⟩ := IsC.focus g2 e
        obtain ⟨nm, hz⟩ := zip_get hi g1
        subst g3
        refine ⟨u, Ls, (a, .dK (ks.zip vs)) :: (L0 ++ (L1 ++ L2)), k1, ?_, fun T hT => ⟨a, w, rfl, .inr (.inr ⟨_, nm, hT (a, .dK (ks.zip vs)) List.mem_cons_self, hz⟩), k3 T fun x hx => hT x (List.mem_cons_of_mem _ (List.mem_append_right _ (List.mem_append_left _ hx)))⟩, fun H' s' Ls' sm h' => ?_⟩
        · refine (List.Perm.cons _ ?_).trans List.perm_middle.symm
          refine List.Perm.trans ?_ (show List.Perm ((Ls ++ L0) ++ (L1 ++ L2)) (Ls ++ (L0 ++ (L1 ++ L2))) by rw [List.append_assoc])
          refine List.Perm.trans ?_ (k2.append_right (L1 ++ L2))
          refine List.Perm.trans ?_ (show List.Perm ((Lw ++ L1) ++ L2) (Lw ++ (L1 ++ L2)) by rw [List.append_assoc])
          rw [← List.append_assoc]
          exact List.perm_append_comm.append_right _
        · obtain ⟨L', q1, q2⟩ := k4 H' s' Ls' sm h'
          have q3 := g4 H' _ _ _ sm q1
          rw [set_same g1] at q3
          refine ⟨(a, .dK (ks.zip vs)) :: (L1 ++ (L' ++ L2)), ⟨a, vs, _, rfl, rfl, by rw [modify_set _ hx]; exact q3⟩, ?_⟩
          refine (List.Perm.cons _ ?_).trans List.perm_middle.symm
          refine List.Perm.trans ?_ (show List.Perm ((Ls' ++ L0) ++ (L1 ++ L2)) (Ls' ++ (L0 ++ (L1 ++ L2))) by rw [List.append_assoc])
          refine List.Perm.trans ?_ (q2.append_right (L1 ++ L2))
          refine List.Perm.trans ?_ (show List.Perm ((L' ++ L1) ++ L2) (L' ++ (L1 ++ L2)) by rw [List.append_assoc])
          rw [← List.append_assoc]
          exact List.perm_append_comm.append_right _
      · rw [if_neg hi] at e
        cases e
    | non => cases e
    | bl b => cases e
    | int b => cases e
    | str b => cases e
    | scr b => cases e
    | ty b => cases e
    | obj b => cases e
    | exc a b c f => cases e
    | kn b => cases e
end

/-! no known parts -/
mutual
def D.kf : D → Bool
  | .tup l => D.kfL l
  | .lst l => D.kfL l
  | .ins _ _ l => D.kfL l
  | .dic _ l => D.kfL l
  | .slf _ _ _ l => D.kfL l
  | .kn _ => false
  | _ => true
def D.kfL : List D → Bool
  | [] => true
  | d :: l => D.kf d && D.kfL l
end
mutual
theorem IsC.any {K : PySem.W.Frag} {H H' : Hp} : ∀ (d : D) (v : V) (L : Op), d.kf = true → IsC K H d v L → IsC K H' d v L
  | .non, _, _, _, h => h
  | .bl _, _, _, _, h => h
  | .int _, _, _, _, h => h
  | .str _, _, _, _, h => h
  | .tup l, _, _, k, ⟨a, vs, Ls, h1, h2, h⟩ => ⟨a, vs, Ls, h1, h2, IsCL.any l vs Ls (by simpa [D.kf] using k) h⟩
  | .lst l, _, _, k, ⟨a, vs, Ls, h1, h2, h⟩ => ⟨a, vs, Ls, h1, h2, IsCL.any l vs Ls (by simpa [D.kf] using k) h⟩
  | .scr _, _, _, _, h => h
  | .ty _, _, _, _, h => h
  | .obj _, _, _, _, h => h
  | .exc _ _ _ _, _, _, _, h => h
  | .ins C ns l, _, _, k, ⟨a, dx, vs, Ls, h1, h2, h⟩ => ⟨a, dx, vs, Ls, h1, h2, IsCL.any l vs Ls (by simpa [D.kf] using k) h⟩
  | .dic ks l, _, _, k, ⟨a, vs, Ls, h1, h2, h⟩ => ⟨a, vs, Ls, h1, h2, IsCL.any l vs Ls (by simpa [D.kf] using k) h⟩
  | .slf a C ns l, _, _, k, ⟨h1, dx, vs, Ls, h2, h⟩ => ⟨h1, dx, vs, Ls, h2, IsCL.any l vs Ls (by simpa [D.kf] using k) h⟩
  | .kn d, _, _, k, _ => by simp [D.kf] at k
theorem IsCL.any {K : PySem.W.Frag} {H H' : Hp} : ∀ (l : List D) (vs : List V) (L : Op), D.kfL l = true → IsCL K H l vs L → IsCL K H' l vs L
  | [], _, _, _, h => h
  | d :: l, _, _, k, ⟨v, r, L1, L2, h1, h2, h3, h4⟩ => by
    have k' : d.kf = true ∧ D.kfL l = true := by simpa [D.kfL] using k
    exact ⟨v, r, L1, L2, h1, h2, IsC.any d v L1 k'.1 h3, IsCL.any l r L2 k'.2 h4⟩
end
theorem D.kfL_of {l : List D} (h : ∀ d ∈ l, d.kf = true) : D.kfL l = true := by
  induction l with
  | nil => rfl
  | cons d l ih => rw [D.kfL, h d List.mem_cons_self, ih fun x hx => h x (List.mem_cons_of_mem _ hx)] <;> rfl
theorem D.kf_lst {l : List D} (h : ∀ d ∈ l, d.kf = true) : (D.lst l).kf = true := by
  rw [D.kf, D.kfL_of h]

/-- numbers, texts, truth values, None -/
def D.sc : D → Bool
  | .non => true
  | .bl _ => true
  | .int _ => true
  | .str _ => true
  | .ty _ => true
  | .obj _ => true
  | _ => false
theorem D.sc_kf {d : D} (h : d.sc = true) : d.kf = true := by
  cases d <;> first | rfl | cases h
theorem Is.sc {K : PySem.W.Frag} {H : Hp} {d : D} {v : V} (h : Is K H d v) (e : d.sc = true) : IsC K H d v [] := by
  cases d <;> first | exact ⟨h, rfl⟩ | cases e
theorem Is.any {K : PySem.W.Frag} {H H' : Hp} {d : D} {v : V} (h : Is K H d v) (e : d.sc = true) : Is K H' d v := by
  cases d <;> first | exact h | cases e
theorem IsL.sc {K : PySem.W.Frag} {H : Hp} : ∀ {l : List D} {vs : List V}, IsL K H l vs → (∀ d ∈ l, d.sc = true) → IsCL K H l vs []
  | [], _, h, _ => ⟨h, rfl⟩
  | d :: l, _, ⟨v, r, e, h1, h2⟩, q => ⟨v, r, [], [], e, rfl, h1.sc (q d List.mem_cons_self), IsL.sc h2 fun x hx => q x (List.mem_cons_of_mem _ hx)⟩

/-! ### slots -/
inductive Sl where
  | no
  | im (d : D)
  | ow (l : List D)
  | cl (d : D)
abbrev Rho := List Sl
inductive EnR (K : PySem.W.Frag) (H : Hp) : Rho → L2.St → Op → Prop
  | nil : EnR K H [] [] []
  | no {ρ : Rho} {σ : L2.St} {L : Op} {x : Option V} : EnR K H ρ σ L → EnR K H (.no :: ρ) (x :: σ) L
  | im {ρ : Rho} {σ : L2.St} {L : Op} {d : D} {v : V} : Is K H d v → EnR K H ρ σ L → EnR K H (.im d :: ρ) (some v :: σ) L
  | ow {ρ : Rho} {σ : L2.St} {L : Op} {l : List D} {vs : List V} {p : Addr} : IsL K H l vs → EnR K H ρ σ L → EnR K H (.ow l :: ρ) (some (.ref p) :: σ) ((p, .lst vs) :: L)
  | cl {ρ : Rho} {σ : L2.St} {L Lc : Op} {d : D} {v : V} : IsC K H d v Lc → EnR K H ρ σ L → EnR K H (.cl d :: ρ) (some v :: σ) (Lc ++ L)
section
variable {K : PySem.W.Frag} {H H' : Hp} {ρ : Rho} {σ : L2.St} {L : Op}
theorem EnR.up (e : Same H H') (h : EnR K H ρ σ L) : EnR K H' ρ σ L := by
  induction h with
  | nil => exact .nil
  | no _ ih => exact .no ih
  | im h _ ih => exact .im (h.up e) ih
  | ow h _ ih => exact .ow (h.up e) ih
  | cl h _ ih => exact .cl (h.up e) ih
theorem EnR.len (h : EnR K H ρ σ L) : σ.length = ρ.length := by
  induction h with
  | nil => rfl
  | no _ ih => simp [ih]
  | im _ _ ih => simp [ih]
  | ow _ _ ih => simp [ih]
  | cl _ _ ih => simp [ih]
theorem EnR.get (h : EnR K H ρ σ L) : ∀ {i : Nat} {d : D}, ρ[i]? = some (.im d) → ∃ v, σ[i]? = some (some v) ∧ Is K H d v := by
  induction h with
  | nil => intro i d e; simp at e
  | no _ ih | ow _ _ ih | cl _ _ ih =>
    intro i d e
    cases i with
    | zero => cases e
    | succ i => exact ih (by simpa using e)
  | im h _ ih =>
    intro i d e
    cases i with
    | zero =>
      cases e
      exact ⟨_, rfl, h⟩
    | succ i => exact ih (by simpa using e)
/-- slot i alone: its own part, and how it may be filled anew; g: what of L stands before it, behind it -/
theorem EnR.at_ (h : EnR K H ρ σ L) : ∀ {i : Nat} {s : Sl}, ρ[i]? = some s → ∃ x Ls L1 L2, σ[i]? = some x ∧ L = L1 ++ (Ls ++ L2) ∧ EnR K H [s] [x] Ls ∧
    ∀ H' s' x' Ls', Same H H' → EnR K H' [s'] [x'] Ls' → EnR K H' (ρ.set i s') (σ.set i x') (L1 ++ (Ls' ++ L2)) := by
  have put : ∀ {H' : Hp} {s' : Sl} {x' : Option V} {Ls' : Op} {ρ : Rho} {σ : L2.St} {L : Op}, EnR K H' [s'] [x'] Ls' → EnR K H' ρ σ L → EnR K H' (s' :: ρ) (x' :: σ) (Ls' ++ L) := by
    intro H' s' x' Ls' ρ σ L h1 h2
    cases h1 with
    | no h => cases h; exact .no h2
    | im i h => cases h; exact .im i h2
    | ow i h => cases h; exact .ow i h2
    | cl i h =>
      cases h
      rw [List.append_nil]
      exact .cl i h2
  induction h with
  | nil => intro i s e; simp at e
  | @no ρ σ L x h ih =>
    intro i s e
    cases i with
    | zero =>
      cases e
      exact ⟨x, [], [], L, rfl, rfl, .no .nil, fun H' s' x' Ls' s0 q => (show EnR K H' (s' :: ρ) (x' :: σ) (Ls' ++ L) from put q (h.up s0))⟩
    | succ i =>
      obtain ⟨y, Ls, L1, L2, h1, h2, h3, h4⟩ := ih (by simpa using e)
      exact ⟨y, Ls, L1, L2, by simpa using h1, h2, h3, fun H' s' x' Ls' s0 q => .no (h4 H' s' x' Ls' s0 q)⟩
  | @im ρ σ L d v iv h ih =>
    intro i s e
    cases i with
    | zero =>
      cases e
      exact ⟨_, [], [], L, rfl, rfl, .im iv .nil, fun H' s' x' Ls' s0 q => (show EnR K H' (s' :: ρ) (x' :: σ) (Ls' ++ L) from put q (h.up s0))⟩
    | succ i =>
      obtain ⟨y, Ls, L1, L2, h1, h2, h3, h4⟩ := ih (by simpa using e)
      exact ⟨y, Ls, L1, L2, by simpa using h1, h2, h3, fun H' s' x' Ls' s0 q => .im (iv.up s0) (h4 H' s' x' Ls' s0 q)⟩
  | @ow ρ σ L l vs p iv h ih =>
    intro i s e
    cases i with
    | zero =>
      cases e
      exact ⟨_, [(p, .lst vs)], [], L, rfl, rfl, .ow iv .nil, fun H' s' x' Ls' s0 q => (show EnR K H' (s' :: ρ) (x' :: σ) (Ls' ++ L) from put q (h.up s0))⟩
    | succ i =>
      obtain ⟨y, Ls, L1, L2, h1, h2, h3, h4⟩ := ih (by simpa using e)
      exact ⟨y, Ls, (p, .lst vs) :: L1, L2, by simpa using h1, by rw [h2] <;> rfl, h3, fun H' s' x' Ls' s0 q => .ow (iv.up s0) (h4 H' s' x' Ls' s0 q)⟩
  | @cl ρ σ L Lc d v iv h ih =>
    intro i s e
    cases i with
    | zero =>
      cases e
      refine ⟨_, Lc, [], L, rfl, rfl, ?_, fun H' s' x' Ls' s0 q => (show EnR K H' (s' :: ρ) (x' :: σ) (Ls' ++ L) from put q (h.up s0))⟩
      have := EnR.cl (K := K) (H := H) iv .nil
      rw [List.append_nil] at this
      exact this
    | succ i =>
      obtain ⟨y, Ls, L1, L2, h1, h2, h3, h4⟩ := ih (by simpa using e)
      refine ⟨y, Ls, Lc ++ L1, L2, by simpa using h1, by rw [h2, List.append_assoc], h3, fun H' s' x' Ls' s0 q => ?_⟩
      rw [List.append_assoc]
      exact .cl (iv.up s0) (h4 H' s' x' Ls' s0 q)
theorem EnR.start {l : List D} {vs : List V} (hl : IsL K H l vs) (n : Nat) : EnR K H (l.map .im ++ List.replicate n .no) (vs.map some ++ List.replicate n none) [] := by
  induction l generalizing vs with
  | nil =>
    rw [show vs = [] from hl]
    induction n with
    | zero => exact .nil
    | succ n ih => exact .no ih
  | cons d l ih =>
    obtain ⟨v, r, e, h1, h2⟩ := hl
    rw [e]
    exact .im h1 (ih h2)
end

/-- M: what others have open; T0: the heap at the def's entry; X: what is open beside the slots -/
structure EnX (K : PySem.W.Frag) (M : Op) (T0 H T : Hp) (σ : L2.St) (ρ : Rho) (X : Op) : Prop where
  ex : ∃ L, EnR K H ρ σ L ∧ Opn H T (X ++ (L ++ M)) ∧ ∀ x ∈ X ++ L, T0 x.1 = none
  t0 : Same T0 T
abbrev En (K : PySem.W.Frag) (M : Op) (T0 H T : Hp) (σ : L2.St) (ρ : Rho) : Prop := EnX K M T0 H T σ ρ []
section
variable {K : PySem.W.Frag} {M : Op} {T0 H H' T T' : Hp} {ρ : Rho} {σ : L2.St} {X X' : Op} {p : Addr} {o : HO}
theorem EnX.same (h : EnX K M T0 H T σ ρ X) : Same H T := let ⟨_, _, q, _⟩ := h.ex; q.same
theorem EnX.get (h : EnX K M T0 H T σ ρ X) {i : Nat} {d : D} (e : ρ[i]? = some (.im d)) : ∃ v, σ[i]? = some (some v) ∧ Is K H d v := let ⟨_, r, _⟩ := h.ex; r.get e
theorem EnX.len (h : EnX K M T0 H T σ ρ X) : σ.length = ρ.length := let ⟨_, r, _⟩ := h.ex; r.len
/-- a new object, known at once -/
theorem EnX.new (h : EnX K M T0 H T σ ρ X) (hp : T p = none) : Same H (upd H p o) ∧ EnX K M T0 (upd H p o) (upd T p o) σ ρ X := by
  obtain ⟨L, r, q, f⟩ := h.ex
  have s : Same H (upd H p o) := same_new (q.fresh hp)
  exact ⟨s, ⟨L, r.up s, q.new hp, f⟩, h.t0.trans (same_new hp)⟩
theorem EnX.opened (h : EnX K M T0 H T σ ρ X) (hp : T p = none) : EnX K M T0 H (upd T p o) σ ρ ((p, o) :: X) := by
  obtain ⟨L, r, q, f⟩ := h.ex
  refine ⟨⟨L, r, q.opened hp, fun x hx => ?_⟩, h.t0.trans (same_new hp)⟩
  rcases List.mem_cons.mp hx with rfl | hx
  · exact h.t0.free hp
  · exact f x hx
theorem EnX.close (h : EnX K M T0 H T σ ρ ((p, o) :: X)) : Same H (upd H p o) ∧ EnX K M T0 (upd H p o) T σ ρ X := by
  obtain ⟨L, r, q, f⟩ := h.ex
  obtain ⟨s, q'⟩ := Opn.close q
  exact ⟨s, ⟨L, r.up s, q', fun x hx => f x (List.mem_cons_of_mem _ hx)⟩, h.t0⟩
theorem EnX.write {o' : HO} (h : EnX K M T0 H T σ ρ ((p, o) :: X)) : EnX K M T0 H (upd T p o') σ ρ ((p, o') :: X) := by
  obtain ⟨L, r, q, f⟩ := h.ex
  refine ⟨⟨L, r, q.write, fun x hx => ?_⟩, fun b u e => ?_⟩
  · rcases List.mem_cons.mp hx with rfl | hx
    · exact f (p, o) List.mem_cons_self
    · exact f x (List.mem_cons_of_mem _ hx)
  · rw [upd_ne (ne_of_none e (f (p, o) List.mem_cons_self))]
    exact h.t0 b u e
theorem EnX.at_ (h : EnX K M T0 H T σ ρ ((p, o) :: X)) : T p = some o := let ⟨_, _, q, _⟩ := h.ex; q.at_ _ List.mem_cons_self
theorem EnX.sub (h : EnX K M T0 H T σ ρ X) (e : List.Sublist X' X) : EnX K M T0 H T σ ρ X' := by
  obtain ⟨L, r, q, f⟩ := h.ex
  exact ⟨⟨L, r, q.sub (e.append (List.Sublist.refl _)), fun x hx => f x ((e.append (List.Sublist.refl L)).subset hx)⟩, h.t0⟩
theorem EnX.perm (h : EnX K M T0 H T σ ρ X) (e : List.Perm X X') : EnX K M T0 H T σ ρ X' := by
  obtain ⟨L, r, q, f⟩ := h.ex
  exact ⟨⟨L, r, q.perm (e.append_right _), fun x hx => f x ((e.append_right L).mem_iff.mpr hx)⟩, h.t0⟩
/-- a closed tree is known from now on -/
theorem EnX.closeAll : ∀ {Lc : Op} {H : Hp}, EnX K M T0 H T σ ρ (Lc ++ X) → ∃ H', Same H H' ∧ EnX K M T0 H' T σ ρ X ∧ ∀ x ∈ Lc, H' x.1 = some x.2
  | [], H, h => ⟨H, Same.refl _, h, fun _ hx => by cases hx⟩
  | (p, o) :: r, H, h => by
    obtain ⟨s1, h1⟩ := EnX.close h
    obtain ⟨H', s2, h2, h3⟩ := EnX.closeAll h1
    refine ⟨H', s1.trans s2, h2, fun x hx => ?_⟩
    rcases List.mem_cons.mp hx with rfl | hx
    · exact s2 _ _ upd_same
    · exact h3 x hx
theorem EnX.frame (h : EnX K M T0 H T σ ρ X) : Opn H T M := by
  obtain ⟨L, r, q, f⟩ := h.ex
  exact q.sub ((List.sublist_append_right _ _).trans (List.sublist_append_right _ _))
theorem sl_one {s : Sl} {x : Option V} {d : D} {v : V} (h : Is K H d v) : EnR K H [.im d] [some v] [] := .im h .nil
/-- slot i filled anew by Ls', which stood in X -/
theorem EnX.fill {i : Nat} {s' : Sl} {x' : Option V} {Ls' : Op} (h : EnX K M T0 H T σ ρ (Ls' ++ X)) (hs : EnR K H [s'] [x'] Ls') (hi : i < ρ.length) : EnX K M T0 H T (σ.set i x') (ρ.set i s') X := by
  obtain ⟨L, r, q, f⟩ := h.ex
  obtain ⟨x, Ls, L1, L2, h1, h2, h3, h4⟩ := r.at_ (List.getElem?_eq_getElem hi)
  subst h2
  have sb : List.Sublist (Ls' ++ (X ++ ((L1 ++ L2) ++ M))) ((Ls' ++ X) ++ ((L1 ++ (Ls ++ L2)) ++ M)) := by
    rw [show (Ls' ++ X) ++ ((L1 ++ (Ls ++ L2)) ++ M) = Ls' ++ (X ++ ((L1 ++ (Ls ++ L2)) ++ M)) from List.append_assoc _ _ _]
    exact (List.Sublist.refl _).append ((List.Sublist.refl _).append (((List.Sublist.refl _).append (List.sublist_append_right _ _)).append (List.Sublist.refl _)))
  have pm : List.Perm (Ls' ++ (X ++ ((L1 ++ L2) ++ M))) (X ++ ((L1 ++ (Ls' ++ L2)) ++ M)) := by
    have e1 : Ls' ++ (X ++ ((L1 ++ L2) ++ M)) = (Ls' ++ (X ++ L1)) ++ (L2 ++ M) := by simp [List.append_assoc]
    have e2 : X ++ ((L1 ++ (Ls' ++ L2)) ++ M) = ((X ++ L1) ++ Ls') ++ (L2 ++ M) := by simp [List.append_assoc]
    rw [e1, e2]
    exact List.perm_append_comm.append_right _
  refine ⟨⟨_, h4 H s' x' Ls' (Same.refl _) hs, (q.sub sb).perm pm, fun z hz => ?_⟩, h.t0⟩
  refine f z ?_
  simp only [List.mem_append] at hz ⊢
  rcases hz with a | a | a | a
  · exact .inl (.inr a)
  · exact .inr (.inl a)
  · exact .inl (.inl a)
  · exact .inr (.inr (.inr a))
theorem set_out {α : Type} {l : List α} {i : Nat} {x : α} (h : l.length ≤ i) : l.set i x = l := List.set_eq_of_length_le h
theorem EnX.set {i : Nat} {d : D} {v : V} (h : EnX K M T0 H T σ ρ X) (hd : Is K H d v) : EnX K M T0 H T (σ.set i (some v)) (ρ.set i (.im d)) X := by
  by_cases hi : i < ρ.length
  · exact EnX.fill (Ls' := []) h (.im hd .nil) hi
  · rw [show σ.set i (some v) = σ from set_out (by have := h.len; omega), show ρ.set i (.im d) = ρ from set_out (by omega)]
    exact h
theorem EnX.drop {i : Nat} {x : Option V} (h : EnX K M T0 H T σ ρ X) : EnX K M T0 H T (σ.set i x) (ρ.set i .no) X := by
  by_cases hi : i < ρ.length
  · exact EnX.fill (Ls' := []) h (.no .nil) hi
  · rw [show σ.set i x = σ from set_out (by have := h.len; omega), show ρ.set i .no = ρ from set_out (by omega)]
    exact h
theorem EnX.setO {i : Nat} {l : List D} {vs : List V} (h : EnX K M T0 H T σ ρ ((p, .lst vs) :: X)) (hi : i < ρ.length) (hd : IsL K H l vs) : EnX K M T0 H T (σ.set i (some (.ref p))) (ρ.set i (.ow l)) X :=
  EnX.fill (Ls' := [(p, .lst vs)]) h (.ow hd .nil) hi
theorem EnX.setC {i : Nat} {d : D} {v : V} {Lc : Op} (h : EnX K M T0 H T σ ρ (Lc ++ X)) (hi : i < ρ.length) (hd : IsC K H d v Lc) : EnX K M T0 H T (σ.set i (some v)) (ρ.set i (.cl d)) X := by
  have q := EnR.cl (K := K) (H := H) hd .nil
  rw [List.append_nil] at q
  exact EnX.fill (Ls' := Lc) h q hi
theorem set_self : ∀ {α : Type} {l : List α} {i : Nat} {x : α}, l[i]? = some x → l.set i x = l
  | _, [], _, _, h => by simp at h
  | _, a :: l, 0, x, h => by
    have e : a = x := Option.some.inj h
    rw [e] <;> rfl
  | _, a :: l, i + 1, x, h => by
    show a :: l.set i x = a :: l
    rw [set_self (by simpa using h)]
theorem get_some {α : Type} {l : List α} {i : Nat} (h : i < l.length) : ∃ x, l[i]? = some x := ⟨l[i], List.getElem?_eq_getElem h⟩
/-- slot i emptied: its part stands in X -/
theorem EnX.take {i : Nat} {s : Sl} (h : EnX K M T0 H T σ ρ X) (e : ρ[i]? = some s) : ∃ x Ls, σ[i]? = some x ∧ EnR K H [s] [x] Ls ∧ EnX K M T0 H T σ (ρ.set i .no) (Ls ++ X) := by
  obtain ⟨L, r, q, f⟩ := h.ex
  obtain ⟨x, Ls, L1, L2, h1, h2, h3, h4⟩ := r.at_ e
  subst h2
  have q2 := h4 H .no x [] (Same.refl _) (.no .nil)
  rw [set_self h1] at q2
  have pm : List.Perm (X ++ ((L1 ++ (Ls ++ L2)) ++ M)) ((Ls ++ X) ++ ((L1 ++ ([] ++ L2)) ++ M)) := by
    have e1 : X ++ ((L1 ++ (Ls ++ L2)) ++ M) = ((X ++ L1) ++ Ls) ++ (L2 ++ M) := by simp [List.append_assoc]
    have e2 : (Ls ++ X) ++ ((L1 ++ ([] ++ L2)) ++ M) = (Ls ++ (X ++ L1)) ++ (L2 ++ M) := by simp [List.append_assoc]
    rw [e1, e2]
    exact List.perm_append_comm.append_right _
  refine ⟨x, Ls, h1, h3, ⟨_, q2, q.perm pm, fun z hz => f z ?_⟩, h.t0⟩
  simp only [List.mem_append, List.nil_append] at hz ⊢
  rcases hz with (a | a) | a | a
  · exact .inr (.inr (.inl a))
  · exact .inl a
  · exact .inr (.inl a)
  · exact .inr (.inr (.inr a))
theorem EnR.ow1 {l : List D} {x : Option V} {Ls : Op} (h : EnR K H [.ow l] [x] Ls) : ∃ p vs, x = some (.ref p) ∧ Ls = [(p, .lst vs)] ∧ IsL K H l vs := by
  cases h with
  | ow i h => cases h; exact ⟨_, _, rfl, rfl, i⟩
theorem EnR.cl1 {d : D} {x : Option V} {Ls : Op} (h : EnR K H [.cl d] [x] Ls) : ∃ v, x = some v ∧ IsC K H d v Ls := by
  cases h with
  | cl i h =>
    cases h
    rw [List.append_nil]
    exact ⟨_, rfl, i⟩
/-- the open list at slot i -/
theorem EnX.own {i : Nat} {l : List D} (h : EnX K M T0 H T σ ρ X) (e : ρ[i]? = some (.ow l)) : ∃ p vs, σ[i]? = some (some (.ref p)) ∧ T p = some (.lst vs) ∧ IsL K H l vs ∧
    (∀ l' vs', IsL K H l' vs' → EnX K M T0 H (upd T p (.lst vs')) σ (ρ.set i (.ow l')) X) ∧
    (Same H (upd H p (.lst vs)) ∧ EnX K M T0 (upd H p (.lst vs)) T σ (ρ.set i (.im (.lst l))) X) ∧
    EnX K M T0 H T σ (ρ.set i .no) ((p, .lst vs) :: X) := by
  obtain ⟨x, Ls, h1, h2, h3⟩ := h.take e
  obtain ⟨p, vs, rfl, rfl, h4⟩ := h2.ow1
  have hi : i < (ρ.set i .no).length := by rw [List.length_set]; exact (List.getElem?_eq_some_iff.mp e).1
  refine ⟨p, vs, h1, EnX.at_ h3, h4, fun l' vs' hl => ?_, ?_, h3⟩
  · have q := EnX.setO (i := i) (EnX.write (o' := .lst vs') h3) hi hl
    rw [set_self h1, List.set_set] at q
    exact q
  · obtain ⟨s, q⟩ := EnX.close h3
    have q2 := q.set (i := i) (d := .lst l) (v := .ref p) ⟨p, vs, rfl, upd_same, h4.up s⟩
    rw [set_self h1, List.set_set] at q2
    exact ⟨s, q2⟩
end
end FS
set_option Elab.async false
set_option linter.all false
set_option maxRecDepth 100000
set_option maxHeartbeats 4000000
namespace FS
open PySem PySem.Spec PyProof.Rows L2

/-! ### what an expression is worth -/
section
variable (K : PySem.W.Frag)
def EvD (te : TE) (ρ : Rho) (d : D) : Prop := ∀ (M : Op) (T0 H T : Hp) (σ : L2.St) (X : Op) (Q : VK), EnX K M T0 H T σ ρ X → (∀ v H' T', Same H H' → Same T T' → EnX K M T0 H' T' σ ρ X → Is K H' d v → Q v T') → te σ T Q
/-- a new list -/
def EvO (te : TE) (ρ : Rho) (l : List D) : Prop := ∀ (M : Op) (T0 H T : Hp) (σ : L2.St) (X : Op) (Q : VK), EnX K M T0 H T σ ρ X → (∀ p vs H' T', Same H H' → Same T T' → EnX K M T0 H' T' σ ρ ((p, .lst vs) :: X) → IsL K H' l vs → Q (.ref p) T') → te σ T Q
def EvT (tt : TT) (ρ : Rho) (b : Bool) : Prop := ∀ (M : Op) (T0 H T : Hp) (σ : L2.St) (X : Op) (Q : Bool → Hp → Prop), EnX K M T0 H T σ ρ X → (∀ H' T', Same H H' → Same T T' → EnX K M T0 H' T' σ ρ X → Q b T') → tt σ T Q
def EvA (ta : TA) (ρ : Rho) (ds : List D) : Prop := ∀ (M : Op) (T0 H T : Hp) (σ : L2.St) (X : Op) (Q : List V → Hp → Prop), EnX K M T0 H T σ ρ X → (∀ vs H' T', Same H H' → Same T T' → EnX K M T0 H' T' σ ρ X → IsL K H' ds vs → Q vs T') → ta σ T Q
/-- operations on values -/
def RvD (r : R2) (x y z : D) : Prop := ∀ (H T : Hp) (vx vy : V) (Q : VK), Same H T → Is K H x vx → Is K H y vy → (∀ v, Is K H z v → Q v T) → r vx vy T Q
def RuD (r : V → Hp → VK → Prop) (x z : D) : Prop := ∀ (H T : Hp) (vx : V) (Q : VK), Same H T → Is K H x vx → (∀ v, Is K H z v → Q v T) → r vx T Q
def RcD (r : List V → Hp → VK → Prop) (ds : List D) (z : D) : Prop := ∀ (H T : Hp) (vs : List V) (Q : VK), Same H T → IsL K H ds vs → (∀ v, Is K H z v → Q v T) → r vs T Q
/-- a call that makes a new list -/
def RcO (r : List V → Hp → VK → Prop) (ds l : List D) : Prop := ∀ (H T : Hp) (vs : List V) (Q : VK), Same H T → IsL K H ds vs → (∀ p us, T p = none → IsL K H l us → Q (.ref p) (upd T p (.lst us))) → r vs T Q
/-- an operation that makes a new list -/
def RvO (r : R2) (x y : D) (l : List D) : Prop := ∀ (H T : Hp) (vx vy : V) (Q : VK), Same H T → Is K H x vx → Is K H y vy → (∀ p us, T p = none → IsL K H l us → Q (.ref p) (upd T p (.lst us))) → r vx vy T Q
end

section
variable {K : PySem.W.Frag} {ρ : Rho} {ta tb te tc : TE} {t u : TT} {x y z d : D} {l : List D} {ds : List D} {tr : TA} {r : R2}
theorem EvD.is (h : EvD K te ρ x) (e : x = y) : EvD K te ρ y := e ▸ h
theorem EvO.is {l' : List D} (h : EvO K te ρ l) (e : l = l') : EvO K te ρ l' := e ▸ h
theorem EvT.is {a b : Bool} (h : EvT K t ρ a) (e : a = b) : EvT K t ρ b := e ▸ h
theorem ev_var {i : Nat} (e : ρ[i]? = some (.im d)) : EvD K (tVar i) ρ d := fun M T0 H T σ X Q h q => by
  obtain ⟨v, h1, h2⟩ := h.get e
  exact ⟨v, h1, q v H T (Same.refl _) (Same.refl _) h h2⟩
theorem ev_c {v : V} (hv : ∀ H, Is K H d v) : EvD K (tC v) ρ d := fun M T0 H T σ X Q h q => q v H T (Same.refl _) (Same.refl _) h (hv H)
theorem ev_int {i : Int} : EvD K (tC (.int i)) ρ (.int i) := ev_c fun _ => rfl
theorem ev_bl {b : Bool} : EvD K (tC (.bl b)) ρ (.bl b) := ev_c fun _ => rfl
theorem ev_non : EvD K (tC .non) ρ .non := ev_c fun _ => rfl
theorem ev_str {s : Str} : EvD K (tC (.str s)) ρ (.str s) := ev_c fun _ => rfl
/-- a new list, known from now on -/
theorem ev_fz (h : EvO K te ρ l) : EvD K te ρ (.lst l) := fun M T0 H T σ X Q e q => h M T0 H T σ X Q e fun p vs H' T' s t e' hl => by
  obtain ⟨s2, e2⟩ := e'.close
  exact q (.ref p) _ T' (s.trans s2) t e2 ⟨p, vs, rfl, upd_same, hl.up s2⟩
theorem ev_op (ha : EvD K ta ρ x) (hb : EvD K tb ρ y) (hr : RvD K r x y z) : EvD K (tOp r ta tb) ρ z := fun M T0 H T σ X Q e q =>
  ha M T0 H T σ X _ e fun v H1 T1 s1 t1 e1 i1 => hb M T0 H1 T1 σ X _ e1 fun w H2 T2 s2 t2 e2 i2 => hr H2 T2 v w Q e2.same (i1.up s2) i2 fun u iu => q u H2 T2 (s1.trans s2) (t1.trans t2) e2 iu
theorem ev_un {r : V → Hp → VK → Prop} (ha : EvD K ta ρ x) (hr : RuD K r x z) : EvD K (tUn r ta) ρ z := fun M T0 H T σ X Q e q =>
  ha M T0 H T σ X _ e fun v H1 T1 s1 t1 e1 i1 => hr H1 T1 v Q e1.same i1 fun u iu => q u H1 T1 s1 t1 e1 iu
theorem ev_opO (ha : EvD K ta ρ x) (hb : EvD K tb ρ y) (hr : RvO K r x y l) : EvO K (tOp r ta tb) ρ l := fun M T0 H T σ X Q e q =>
  ha M T0 H T σ X _ e fun v H1 T1 s1 t1 e1 i1 => hb M T0 H1 T1 σ X _ e1 fun w H2 T2 s2 t2 e2 i2 => hr H2 T2 v w Q e2.same (i1.up s2) i2 fun p us hp iu => q p us H2 _ (s1.trans s2) ((t1.trans t2).trans (same_new hp)) (e2.opened hp) iu
theorem ev_cb {r : List V → Hp → VK → Prop} (ha : EvA K tr ρ ds) (hr : RcD K r ds z) : EvD K (tCB r tr) ρ z := fun M T0 H T σ X Q e q =>
  ha M T0 H T σ X _ e fun vs H1 T1 s1 t1 e1 i1 => hr H1 T1 vs Q e1.same i1 fun u iu => q u H1 T1 s1 t1 e1 iu
theorem ev_cbO {r : List V → Hp → VK → Prop} (ha : EvA K tr ρ ds) (hr : RcO K r ds l) : EvO K (tCB r tr) ρ l := fun M T0 H T σ X Q e q =>
  ha M T0 H T σ X _ e fun vs H1 T1 s1 t1 e1 i1 => hr H1 T1 vs Q e1.same i1 fun p us hp iu => q p us H1 _ s1 (t1.trans (same_new hp)) (e1.opened hp) iu
theorem ea_nil : EvA K tNil ρ [] := fun M T0 H T σ X Q e q => q [] H T (Same.refl _) (Same.refl _) e rfl
theorem ea_cons (ha : EvD K ta ρ x) (hr : EvA K tr ρ ds) : EvA K (tCons ta tr) ρ (x :: ds) := fun M T0 H T σ X Q e q =>
  ha M T0 H T σ X _ e fun v H1 T1 s1 t1 e1 i1 => hr M T0 H1 T1 σ X _ e1 fun vs H2 T2 s2 t2 e2 i2 => q (v :: vs) H2 T2 (s1.trans s2) (t1.trans t2) e2 (.cons (i1.up s2) i2)
theorem ev_tup (ha : EvA K tr ρ ds) (hl : ds.length ≤ 1000) : EvD K (tTup tr) ρ (.tup ds) := fun M T0 H T σ X Q e q =>
  ha M T0 H T σ X _ e fun vs H1 T1 s1 t1 e1 i1 => ⟨by rw [i1.len]; exact Nat.le_trans hl (by decide), fun p hp => by
    obtain ⟨s2, e2⟩ := e1.new (o := .tup vs) hp
    exact q (.ref p) _ _ (s1.trans s2) (t1.trans (same_new hp)) e2 ⟨p, vs, rfl, .inl (.inl upd_same), i1.up s2⟩⟩
theorem evo_lst (ha : EvA K tr ρ ds) (hl : ds.length ≤ 1000) : EvO K (tLst tr) ρ ds := fun M T0 H T σ X Q e q =>
  ha M T0 H T σ X _ e fun vs H1 T1 s1 t1 e1 i1 => ⟨by rw [i1.len]; exact Nat.le_trans hl (by decide), fun p hp => q p vs H1 _ s1 (t1.trans (same_new hp)) (e1.opened hp) i1⟩
/-! tests -/
theorem et_test {b : Bool} (h : EvD K te ρ (.bl b)) : EvT K (tTest te) ρ b := fun M T0 H T σ X Q e q =>
  h M T0 H T σ X _ e fun v H1 T1 s1 t1 e1 i1 => ⟨b, i1, q H1 T1 s1 t1 e1⟩
theorem et_B {b : Bool} (h : EvD K te ρ (.bl b)) : EvT K (tB te) ρ b := fun M T0 H T σ X Q e q =>
  h M T0 H T σ X _ e fun v H1 T1 s1 t1 e1 i1 => ⟨b, i1, q H1 T1 s1 t1 e1⟩
theorem et_and {a b : Bool} (h1 : EvT K t ρ a) (h2 : a = true → EvT K u ρ b) : EvT K (tAnd t u) ρ (a && b) := fun M T0 H T σ X Q e q =>
  h1 M T0 H T σ X _ e fun H1 T1 s1 t1 e1 => by
    cases a with
    | true =>
      show u σ T1 Q
      exact h2 rfl M T0 H1 T1 σ X Q e1 fun H2 T2 s2 t2 e2 => q H2 T2 (s1.trans s2) (t1.trans t2) e2
    | false =>
      show Q false T1
      exact q H1 T1 s1 t1 e1
theorem et_or {a b : Bool} (h1 : EvT K t ρ a) (h2 : a = false → EvT K u ρ b) : EvT K (tOr t u) ρ (a || b) := fun M T0 H T σ X Q e q =>
  h1 M T0 H T σ X _ e fun H1 T1 s1 t1 e1 => by
    cases a with
    | true =>
      show Q true T1
      exact q H1 T1 s1 t1 e1
    | false =>
      show u σ T1 Q
      exact h2 rfl M T0 H1 T1 σ X Q e1 fun H2 T2 s2 t2 e2 => q H2 T2 (s1.trans s2) (t1.trans t2) e2
theorem et_not {a : Bool} (h1 : EvT K t ρ a) : EvT K (tNot t) ρ (!a) := fun M T0 H T σ X Q e q => h1 M T0 H T σ X _ e fun H1 T1 s1 t1 e1 => q H1 T1 s1 t1 e1
theorem et_yes : EvT K tYes ρ true := fun M T0 H T σ X Q e q => q H T (Same.refl _) (Same.refl _) e
theorem ev_andV {a b : Bool} (h1 : EvD K ta ρ (.bl a)) (h2 : a = true → EvD K tb ρ (.bl b)) : EvD K (tAndV ta tb) ρ (.bl (a && b)) := fun M T0 H T σ X Q e q =>
  h1 M T0 H T σ X _ e fun v H1 T1 s1 t1 e1 i1 => ⟨a, i1, by
    cases a with
    | true =>
      show tb σ T1 Q
      exact h2 rfl M T0 H1 T1 σ X Q e1 fun w H2 T2 s2 t2 e2 i2 => q w H2 T2 (s1.trans s2) (t1.trans t2) e2 i2
    | false =>
      show Q (.bl false) T1
      exact q _ H1 T1 s1 t1 e1 rfl⟩
theorem ev_orV {a b : Bool} (h1 : EvD K ta ρ (.bl a)) (h2 : a = false → EvD K tb ρ (.bl b)) : EvD K (tOrV ta tb) ρ (.bl (a || b)) := fun M T0 H T σ X Q e q =>
  h1 M T0 H T σ X _ e fun v H1 T1 s1 t1 e1 i1 => ⟨a, i1, by
    cases a with
    | true =>
      show Q (.bl true) T1
      exact q _ H1 T1 s1 t1 e1 rfl
    | false =>
      show tb σ T1 Q
      exact h2 rfl M T0 H1 T1 σ X Q e1 fun w H2 T2 s2 t2 e2 i2 => q w H2 T2 (s1.trans s2) (t1.trans t2) e2 i2⟩
theorem ev_notV {a : Bool} (h1 : EvD K ta ρ (.bl a)) : EvD K (tNotV ta) ρ (.bl (!a)) := fun M T0 H T σ X Q e q =>
  h1 M T0 H T σ X _ e fun v H1 T1 s1 t1 e1 i1 => ⟨a, i1, q _ H1 T1 s1 t1 e1 rfl⟩
theorem ev_if {b : Bool} (h : EvT K t ρ b) (h1 : b = true → EvD K ta ρ x) (h2 : b = false → EvD K tb ρ x) : EvD K (tIf t ta tb) ρ x := fun M T0 H T σ X Q e q =>
  h M T0 H T σ X _ e fun H1 T1 s1 t1 e1 => by
    cases b with
    | true =>
      show ta σ T1 Q
      exact h1 rfl M T0 H1 T1 σ X Q e1 fun w H2 T2 s2 t2 e2 i2 => q w H2 T2 (s1.trans s2) (t1.trans t2) e2 i2
    | false =>
      show tb σ T1 Q
      exact h2 rfl M T0 H1 T1 σ X Q e1 fun w H2 T2 s2 t2 e2 i2 => q w H2 T2 (s1.trans s2) (t1.trans t2) e2 i2

/-! operations on ints and others -/
theorem rv_I0 {g : Int → Int → V} {i j : Int} (hz : ∀ H, Is K H z (g i j)) : RvD K (rI0 g) (.int i) (.int j) z := fun H T vx vy Q s h1 h2 q => ⟨i, j, h1, h2, q _ (hz H)⟩
theorem rv_I {C : Int → Int → Prop} {g : Int → Int → V} {i j : Int} (hc : C i j) (hz : ∀ H, Is K H z (g i j)) : RvD K (rI C g) (.int i) (.int j) z := fun H T vx vy Q s h1 h2 q => ⟨i, j, h1, h2, hc, q _ (hz H)⟩
theorem ru_I {g : Int → V} {i : Int} (hz : ∀ H, Is K H z (g i)) : RuD K (rU g) (.int i) z := fun H T vx Q s h1 q => ⟨i, h1, q _ (hz H)⟩
theorem rv_eqI {i j : Int} : RvD K rEq (.int i) (.int j) (.bl (decide (i = j))) := fun H T vx vy Q s h1 h2 q => by
  rw [show vx = V.int i from h1, show vy = V.int j from h2]
  exact ⟨rfl, q _ (by rw [dec_int]; exact congrArg V.bl (Bool.beq_eq_decide_eq i j))⟩
theorem rv_neI {i j : Int} : RvD K rNe (.int i) (.int j) (.bl (!decide (i = j))) := fun H T vx vy Q s h1 h2 q => by
  rw [show vx = V.int i from h1, show vy = V.int j from h2]
  exact ⟨rfl, q _ (by rw [dec_int]; exact congrArg (fun b => V.bl (!b)) (Bool.beq_eq_decide_eq i j))⟩
theorem rv_eqS {i j : Str} : RvD K rEq (.str i) (.str j) (.bl (decide (i = j))) := fun H T vx vy Q s h1 h2 q => by
  rw [show vx = V.str i from h1, show vy = V.str j from h2]
  refine ⟨rfl, q _ ?_⟩
  show V.bl (decide (V.str i = V.str j)) = V.bl (decide (i = j))
  by_cases e : i = j
  · rw [decide_eq_true e, decide_eq_true (by rw [e])]
  · rw [decide_eq_false e, decide_eq_false (fun z => e (V.str.inj z))]
theorem rv_neS {i j : Str} : RvD K rNe (.str i) (.str j) (.bl (!decide (i = j))) := fun H T vx vy Q s h1 h2 q => by
  rw [show vx = V.str i from h1, show vy = V.str j from h2]
  refine ⟨rfl, q _ ?_⟩
  show V.bl (!decide (V.str i = V.str j)) = V.bl (!decide (i = j))
  by_cases e : i = j
  · rw [decide_eq_true e, decide_eq_true (by rw [e])]
  · rw [decide_eq_false e, decide_eq_false (fun z => e (V.str.inj z))]
/-- is None -/
def isNon : D → Bool
  | .non => true
  | .kn d => isNon d
  | _ => false
theorem isNon_ok {H : Hp} {v : V} : ∀ (x : D), Is K H x v → decide (v = .non) = isNon x
  | .non, h => by rw [show v = V.non from h] <;> rfl
  | .bl b, h => by rw [show v = V.bl b from h] <;> rfl
  | .int b, h => by rw [show v = V.int b from h] <;> rfl
  | .str b, h => by rw [show v = V.str b from h] <;> rfl
  | .tup l, h => by obtain ⟨a, vs, rfl, _⟩ := h; rfl
  | .lst l, h => by obtain ⟨a, vs, rfl, _⟩ := h; rfl
  | .scr l, h => by obtain ⟨a, rfl, _⟩ := h; rfl
  | .ty n, h => by rw [show v = V.ty n from h] <;> rfl
  | .obj a, h => by rw [show v = V.ref a from h] <;> rfl
  | .ins C ns l, h => by obtain ⟨a, dx, vs, rfl, _⟩ := h; rfl
  | .exc a od ns l, h => by obtain ⟨rfl, _⟩ := h; rfl
  | .dic ks l, h => by obtain ⟨a, vs, rfl, _⟩ := h; rfl
  | .slf a C ns l, h => by obtain ⟨rfl, _⟩ := h; rfl
  | .kn d, h => by rw [isNon_ok d (show Is K H d v from h), isNon]
theorem rv_isN : RvD K (fun x y H Q => y = .non ∧ Q (.bl (decide (x = .non))) H) x .non (.bl (isNon x)) := fun H T vx vy Q s h1 h2 q => ⟨h2, q _ (congrArg V.bl (isNon_ok _ h1))⟩
theorem rv_notN : RvD K (fun x y H Q => y = .non ∧ Q (.bl (!decide (x = .non))) H) x .non (.bl (!isNon x)) := fun H T vx vy Q s h1 h2 q => ⟨h2, q _ (congrArg (fun b => V.bl (!b)) (isNon_ok _ h1))⟩
theorem atI_is {H : Hp} {vs : List V} {i : Int} (h : IsL K H l vs) (e : atI l i = some d) : ∃ v, atI vs i = some v ∧ Is K H d v := by
  unfold atI at e ⊢
  rw [h.len]
  cases q : ixN l.length i with
  | none => rw [q] at e; cases e
  | some j =>
    rw [q] at e
    exact h.get (i := j) e
theorem at_nat {j : Nat} (h : l[j]? = some d) : atI l (j : Int) = some d := atI_nat h
theorem rv_ixL {i : Int} (e : atI l i = some d) : RvD K (rIxL K) (.lst l) (.int i) d := fun H T vx vy Q s ⟨a, vs, h0, h1, h2⟩ h3 q => by
  obtain ⟨v, e1, e2⟩ := atI_is h2 e
  exact ⟨a, vs, i, v, h0, h3, .inl (.inl (s _ _ h1)), e1, q v e2⟩
theorem rv_ixT {i : Int} (e : atI l i = some d) : RvD K (rIxT K) (.tup l) (.int i) d := fun H T vx vy Q s ⟨a, vs, h0, h1, h2⟩ h3 q => by
  obtain ⟨v, e1, e2⟩ := atI_is h2 e
  exact ⟨a, vs, i, v, h0, h3, same_t s h1, e1, q v e2⟩
theorem rv_ixC {ns : List Int} {i n : Int} (e : atI ns i = some n) : RvD K (rIxL K) (.scr ns) (.int i) (.int n) := fun H T vx vy Q s ⟨a, h0, h1⟩ h3 q => by
  refine ⟨a, ns.map V.int, i, .int n, h0, h3, s.seq h1, ?_, q _ rfl⟩
  unfold atI at e ⊢
  rw [List.length_map]
  cases q : ixN ns.length i with
  | none => rw [q] at e; cases e
  | some j =>
    rw [q] at e
    have e : ns[j]? = some n := e
    show (ns.map V.int)[j]? = _
    rw [List.getElem?_map, e]
    rfl
theorem rv_ixxL {i : Int} (e : atI l i = some d) : RvD K (rIx K) (.lst l) (.int i) d := fun H T vx vy Q s h1 h2 q => .inl (rv_ixL e H T vx vy Q s h1 h2 q)
theorem rv_ixxT {i : Int} (e : atI l i = some d) : RvD K (rIx K) (.tup l) (.int i) d := fun H T vx vy Q s h1 h2 q => .inr (.inl (rv_ixT e H T vx vy Q s h1 h2 q))
theorem rv_ixxC {ns : List Int} {i n : Int} (e : atI ns i = some n) : RvD K (rIx K) (.scr ns) (.int i) (.int n) := fun H T vx vy Q s h1 h2 q => .inl (rv_ixC e H T vx vy Q s h1 h2 q)
/-- an open list's item -/
theorem ev_ixO {i : Nat} {k : Int} (e : ρ[i]? = some (.ow l)) (hb : EvD K tb ρ (.int k)) (ha : atI l k = some d) : EvD K (tOp (rIx K) (tVar i) tb) ρ d := fun M T0 H T σ X Q h q => by
  obtain ⟨p, vs, h1, h2, h4, _⟩ := h.own e
  refine ⟨.ref p, h1, hb M T0 H T σ X _ h fun w H2 T2 s2 t2 e2 i2 => ?_⟩
  obtain ⟨p', vs', g1, g2, g4, _⟩ := e2.own e
  rw [h1] at g1
  cases g1
  obtain ⟨v, e3, e4⟩ := atI_is g4 ha
  exact .inl ⟨p, vs', k, v, rfl, i2, .inl (.inl g2), e3, q v H2 T2 s2 t2 e2 e4⟩
/-- len -/
abbrev rLen (K : PySem.W.Frag) : List V → Hp → VK → Prop := fun xs H Q => ∃ p ys, xs = [.ref p] ∧ (SqL K H p ys ∨ SqT K H p ys) ∧ Q (.int ys.length) H
theorem isL_one {H : Hp} {vs : List V} (h : IsL K H [d] vs) : ∃ v, vs = [v] ∧ Is K H d v := by
  obtain ⟨v, r, e, h1, h2⟩ := h
  rw [e, show r = [] from h2]
  exact ⟨v, rfl, h1⟩
theorem isL_two {H : Hp} {vs : List V} {d' : D} (h : IsL K H [d, d'] vs) : ∃ v w, vs = [v, w] ∧ Is K H d v ∧ Is K H d' w := by
  obtain ⟨v, r, e, h1, h2⟩ := h
  obtain ⟨w, e2, h3⟩ := isL_one h2
  rw [e, e2]
  exact ⟨v, w, rfl, h1, h3⟩
theorem rc_lenL : RcD K (rLen K) [.lst l] (.int (l.length : Int)) := fun H T vs Q s h q => by
  obtain ⟨v, rfl, a, us, rfl, h1, h2⟩ := isL_one h
  exact ⟨a, us, rfl, .inl (.inl (.inl (s _ _ h1))), q _ (by rw [h2.len]; exact (rfl : V.int _ = V.int _))⟩
theorem rc_lenT : RcD K (rLen K) [.tup l] (.int (l.length : Int)) := fun H T vs Q s h q => by
  obtain ⟨v, rfl, a, us, rfl, h1, h2⟩ := isL_one h
  exact ⟨a, us, rfl, .inr (same_t s h1), q _ (by rw [h2.len]; exact (rfl : V.int _ = V.int _))⟩
theorem rc_lenC {ns : List Int} : RcD K (rLen K) [.scr ns] (.int (ns.length : Int)) := fun H T vs Q s h q => by
  obtain ⟨v, rfl, a, rfl, h1⟩ := isL_one h
  exact ⟨a, ns.map V.int, rfl, .inl (s.seq h1), q _ (by rw [List.length_map]; exact (rfl : V.int _ = V.int _))⟩
theorem ev_lenO {i : Nat} (e : ρ[i]? = some (.ow l)) : EvD K (tCB (rLen K) (tCons (tVar i) tNil)) ρ (.int (l.length : Int)) := fun M T0 H T σ X Q h q => by
  obtain ⟨p, vs, h1, h2, h4, _⟩ := h.own e
  exact ⟨.ref p, h1, p, vs, rfl, .inl (.inl (.inl h2)), q _ H T (Same.refl _) (Same.refl _) h (by rw [h4.len]; exact (rfl : V.int _ = V.int _))⟩
theorem rc_int {i : Int} : RcD K (fun xs H Q => (∃ i, xs = [.int i] ∧ Q (.int i) H) ∨ ∃ k, xs = [.bl k] ∧ Q (.int (if k then 1 else 0)) H) [.int i] (.int i) := fun H T vs Q s h q => by
  obtain ⟨v, rfl, hv⟩ := isL_one h
  exact .inl ⟨i, by rw [show v = V.int i from hv], q _ rfl⟩
theorem rc_intB {b : Bool} : RcD K (fun xs H Q => (∃ i, xs = [.int i] ∧ Q (.int i) H) ∨ ∃ k, xs = [.bl k] ∧ Q (.int (if k then 1 else 0)) H) [.bl b] (.int (if b then 1 else 0)) := fun H T vs Q s h q => by
  obtain ⟨v, rfl, hv⟩ := isL_one h
  exact .inr ⟨b, by rw [show v = V.bl b from hv], q _ rfl⟩
theorem rc_abs {i : Int} : RcD K (fun xs H Q => ∃ i, xs = [.int i] ∧ Q (.int (if i < 0 then -i else i)) H) [.int i] (.int (i.natAbs : Int)) := fun H T vs Q s h q => by
  obtain ⟨v, rfl, hv⟩ := isL_one h
  refine ⟨i, by rw [show v = V.int i from hv], q _ ?_⟩
  show V.int _ = V.int _
  congr 1
  split <;> omega
theorem rc_gcd {a b : Int} : RcD K rGcd [.int a, .int b] (.int ((Nat.gcd a.natAbs b.natAbs : Nat) : Int)) := fun H T vs Q s h q => by
  obtain ⟨v, w, rfl, hv, hw⟩ := isL_two h
  exact ⟨a, b, by rw [show v = V.int a from hv, show w = V.int b from hw], q _ rfl⟩
theorem rc_list : RcO K (fun xs H Q => ∃ p ys, xs = [.ref p] ∧ (SqL K H p ys ∨ SqT K H p ys) ∧ ∀ l, H l = none → Q (.ref l) (upd H l (.lst ys))) [.lst l] l := fun H T vs Q s h q => by
  obtain ⟨v, rfl, a, us, rfl, h1, h2⟩ := isL_one h
  exact ⟨a, us, rfl, .inl (.inl (.inl (s _ _ h1))), fun p hp => q p us hp h2⟩
theorem rc_listT : RcO K (fun xs H Q => ∃ p ys, xs = [.ref p] ∧ (SqL K H p ys ∨ SqT K H p ys) ∧ ∀ l, H l = none → Q (.ref l) (upd H l (.lst ys))) [.tup l] l := fun H T vs Q s h q => by
  obtain ⟨v, rfl, a, us, rfl, h1, h2⟩ := isL_one h
  exact ⟨a, us, rfl, .inr (same_t s h1), fun p hp => q p us hp h2⟩
theorem rvo_cat {l' : List D} (hz : l.length + l'.length ≤ 100000) : RvO K rCat (.lst l) (.lst l') (l ++ l') := fun H T vx vy Q s ⟨a, us, e1, h1, h2⟩ ⟨b, ws, e2, h3, h4⟩ q =>
  ⟨a, b, us, ws, e1, e2, s _ _ h1, s _ _ h3, by rw [h2.len, h4.len]; exact Nat.le_trans hz (by decide), fun p hp => q p _ hp (h2.app h4)⟩
theorem rvo_rep {k : Int} (h1 : -(2 ^ 63) ≤ k ∧ k < 2 ^ 63) (hz : l.length * k.toNat ≤ 100000) : RvO K rRep (.lst l) (.int k) (List.replicate k.toNat l).flatten := fun H T vx vy Q s ⟨a, us, e1, g1, g2⟩ g3 q =>
  ⟨a, k, us, e1, g3, s _ _ g1, h1.1, h1.2, by rw [g2.len]; exact Nat.le_trans hz (by decide), fun p hp => q p _ hp (by
    induction k.toNat with
    | zero => exact (rfl : [] = [])
    | succ n ih =>
      rw [List.replicate_succ, List.replicate_succ, List.flatten_cons, List.flatten_cons]
      exact g2.app ih)⟩
end

/-! ### calls of the text's own defs -/
/-- an exception's data: its class, the names and the values of its fields -/
abbrev Exn := Value × List Str × List D
def IsX (K : PySem.W.Frag) (H : Hp) (od : Option Addr) (ns : List Str) (ds : List D) : Prop := (ns = [] ∧ od = none) ∨ ∃ d vs, od = some d ∧ H d = some (.xd (ns.zip vs)) ∧ IsL K H ds vs
/-- what is handed back; T0: the heap at the entry -/
def RetR (K : PySem.W.Frag) (M : Op) (T0 H T : Hp) (v : V) : Sl → Prop
  | .no => False
  | .im d => Is K H d v ∧ Opn H T M
  | .ow l => ∃ p vs, v = .ref p ∧ IsL K H l vs ∧ Opn H T ((p, .lst vs) :: M) ∧ T0 p = none
  | .cl d => ∃ Lc, IsC K H d v Lc ∧ Opn H T (Lc ++ M) ∧ ∀ x ∈ Lc, T0 x.1 = none
/-- a promise over data: what is asked of the arguments, of what comes back (R), of what is raised (Z) -/
abbrev PrD := List D → (Sl → Prop) → (Exn → Prop) → Prop
def spD (K : PySem.W.Frag) (P : PrD) : Sp := fun vs T Q E => ∃ (M : Op) (H : Hp) (ds : List D) (R : Sl → Prop) (Z : Exn → Prop), Opn H T M ∧ IsL K H ds vs ∧ P ds R Z ∧
  (∀ s v H' T', R s → Same H H' → Same T T' → RetR K M T H' T' v s → Q v T') ∧ ∀ c ns es od H' T', Z (c, ns, es) → Same H H' → Same T T' → Opn H' T' M → IsX K H' od ns es → E c od T'
section
variable {K : PySem.W.Frag} {ρ : Rho} {x z d : D} {l : List D} {ds : List D} {tr : TA} {P : PrD} {E : XK} {M X L : Op} {T0 H H' T T' : Hp} {σ : L2.St} {v : V}
theorem EnX.ret_im (e : EnX K M T0 H T σ ρ X) (r : EnR K H ρ σ L) (f : ∀ x ∈ X ++ L, T0 x.1 = none) (s : Same H H') (t : Same T T') (q : RetR K (X ++ (L ++ M)) T H' T' v (.im d)) : EnX K M T0 H' T' σ ρ X ∧ Is K H' d v :=
  ⟨⟨⟨L, r.up s, q.2, f⟩, e.t0.trans t⟩, q.1⟩
theorem EnX.ret_ow (e : EnX K M T0 H T σ ρ X) (r : EnR K H ρ σ L) (f : ∀ x ∈ X ++ L, T0 x.1 = none) (s : Same H H') (t : Same T T') (q : RetR K (X ++ (L ++ M)) T H' T' v (.ow l)) : ∃ p vs, v = .ref p ∧ EnX K M T0 H' T' σ ρ ((p, .lst vs) :: X) ∧ IsL K H' l vs := by
  obtain ⟨p, vs, rfl, h1, h2, h3⟩ := q
  refine ⟨p, vs, rfl, ⟨⟨L, r.up s, h2, fun x hx => ?_⟩, e.t0.trans t⟩, h1⟩
  rcases List.mem_cons.mp hx with rfl | hx
  · exact e.t0.free h3
  · exact f x hx
theorem EnX.ret_cl (e : EnX K M T0 H T σ ρ X) (r : EnR K H ρ σ L) (f : ∀ x ∈ X ++ L, T0 x.1 = none) (s : Same H H') (t : Same T T') (q : RetR K (X ++ (L ++ M)) T H' T' v (.cl d)) : ∃ Lc, EnX K M T0 H' T' σ ρ (Lc ++ X) ∧ IsC K H' d v Lc := by
  obtain ⟨Lc, h1, h2, h3⟩ := q
  refine ⟨Lc, ⟨⟨L, r.up s, by rw [List.append_assoc]; exact h2, fun x hx => ?_⟩, e.t0.trans t⟩, h1⟩
  rw [List.append_assoc] at hx
  rcases List.mem_append.mp hx with hx | hx
  · exact e.t0.free (h3 x hx)
  · exact f x hx
theorem ev_call (ha : EvA K tr ρ ds) (hp : P ds (fun s => s = .im z) (fun _ => False)) : EvD K (tCall (spD K P) [] E tr) ρ z := fun M T0 H T σ X Q e q =>
  ha M T0 H T σ X _ e fun vs H1 T1 s1 t1 e1 i1 => by
    obtain ⟨L, r, o, f⟩ := e1.ex
    show spD K P (vs ++ []) T1 Q E
    rw [List.append_nil]
    refine ⟨_, H1, ds, _, _, o, i1, hp, fun s v H' T' hs s' t' hr => ?_, fun _ _ _ _ _ _ h => h.elim⟩
    subst hs
    obtain ⟨e2, iz⟩ := e1.ret_im r f s' t' hr
    exact q v H' T' (s1.trans s') (t1.trans t') e2 iz
theorem ev_callO (ha : EvA K tr ρ ds) (hp : P ds (fun s => s = .ow l) (fun _ => False)) : EvO K (tCall (spD K P) [] E tr) ρ l := fun M T0 H T σ X Q e q =>
  ha M T0 H T σ X _ e fun vs H1 T1 s1 t1 e1 i1 => by
    obtain ⟨L, r, o, f⟩ := e1.ex
    show spD K P (vs ++ []) T1 Q E
    rw [List.append_nil]
    refine ⟨_, H1, ds, _, _, o, i1, hp, fun s v H' T' hs s' t' hr => ?_, fun _ _ _ _ _ _ h => h.elim⟩
    subst hs
    obtain ⟨p, us, rfl, e2, iz⟩ := e1.ret_ow r f s' t' hr
    exact q p us H' T' (s1.trans s') (t1.trans t') e2 iz
end

/-! calls that may raise; what raises -/
section
variable {K : PySem.W.Frag} {ρ : Rho} {x z d : D} {l : List D} {ds : List D} {tr : TA} {P : PrD} {W : L2.WX}
theorem ev_callS (ha : EvA K tr ρ ds) (hp : P ds (fun s => s = .im z) (fun _ => False)) : EvD K (tCallS (spD K P) (WE W) tr) ρ z := fun M T0 H T σ X Q e q =>
  ha M T0 H T σ X _ e fun vs H1 T1 s1 t1 e1 i1 => by
    obtain ⟨L, r, o, f⟩ := e1.ex
    refine ⟨_, H1, ds, _, _, o, i1, hp, fun s v H' T' hs s' t' hr => ?_, fun _ _ _ _ _ _ h => h.elim⟩
    subst hs
    obtain ⟨e2, iz⟩ := e1.ret_im r f s' t' hr
    exact q v H' T' (s1.trans s') (t1.trans t') e2 iz
theorem ev_callSO (ha : EvA K tr ρ ds) (hp : P ds (fun s => s = .ow l) (fun _ => False)) : EvO K (tCallS (spD K P) (WE W) tr) ρ l := fun M T0 H T σ X Q e q =>
  ha M T0 H T σ X _ e fun vs H1 T1 s1 t1 e1 i1 => by
    obtain ⟨L, r, o, f⟩ := e1.ex
    refine ⟨_, H1, ds, _, _, o, i1, hp, fun s v H' T' hs s' t' hr => ?_, fun _ _ _ _ _ _ h => h.elim⟩
    subst hs
    obtain ⟨p, us, rfl, e2, iz⟩ := e1.ret_ow r f s' t' hr
    exact q p us H' T' (s1.trans s') (t1.trans t') e2 iz
/-- te raises z -/
def EvZ (K : PySem.W.Frag) (W : L2.WX) (te : TE) (ρ : Rho) (z : Exn) : Prop := ∀ (M : Op) (T0 H T : Hp) (σ : L2.St) (X : Op) (Q : VK), EnX K M T0 H T σ ρ X → (∀ od H' T', Same H H' → Same T T' → EnX K M T0 H' T' σ ρ X → IsX K H' od z.2.1 z.2.2 → W z.1 od σ T') → te σ T Q
def EvZA (K : PySem.W.Frag) (W : L2.WX) (ta : TA) (ρ : Rho) (z : Exn) : Prop := ∀ (M : Op) (T0 H T : Hp) (σ : L2.St) (X : Op) (Q : List V → Hp → Prop), EnX K M T0 H T σ ρ X → (∀ od H' T', Same H H' → Same T T' → EnX K M T0 H' T' σ ρ X → IsX K H' od z.2.1 z.2.2 → W z.1 od σ T') → ta σ T Q
theorem ez_call {z : Exn} (ha : EvA K tr ρ ds) (hp : P ds (fun _ => False) (fun z' => z' = z)) : EvZ K W (tCallS (spD K P) (WE W) tr) ρ z := fun M T0 H T σ X Q e q =>
  ha M T0 H T σ X _ e fun vs H1 T1 s1 t1 e1 i1 => by
    obtain ⟨L, r, o, f⟩ := e1.ex
    refine ⟨_, H1, ds, _, _, o, i1, hp, fun _ _ _ _ h => h.elim, fun c ns es od H' T' hz s' t' o' hx => ?_⟩
    subst hz
    exact q od H' T' (s1.trans s') (t1.trans t') ⟨⟨L, r.up s', o', f⟩, e1.t0.trans t'⟩ hx
theorem ez_args {z : Exn} {sp : Sp} {E : L2.St → XK} (ha : EvZA K W tr ρ z) : EvZ K W (tCallS sp E tr) ρ z := fun M T0 H T σ X Q e q => ha M T0 H T σ X _ e q
theorem eza_here {z : Exn} {ta : TE} (h : EvZ K W ta ρ z) : EvZA K W (tCons ta tr) ρ z := fun M T0 H T σ X Q e q => h M T0 H T σ X _ e q
theorem eza_next {z : Exn} {ta : TE} (ha : EvD K ta ρ x) (h : EvZA K W tr ρ z) : EvZA K W (tCons ta tr) ρ z := fun M T0 H T σ X Q e q =>
  ha M T0 H T σ X _ e fun v H1 T1 s1 t1 e1 i1 => h M T0 H1 T1 σ X _ e1 fun od H' T' s' t' e' hx => q od H' T' (s1.trans s') (t1.trans t') e' hx
theorem ez_lst {z : Exn} (ha : EvZA K W tr ρ z) : EvZ K W (tLst tr) ρ z := fun M T0 H T σ X Q e q => ha M T0 H T σ X _ e q
theorem ez_tup {z : Exn} (ha : EvZA K W tr ρ z) : EvZ K W (tTup tr) ρ z := fun M T0 H T σ X Q e q => ha M T0 H T σ X _ e q
theorem ez_cb {z : Exn} {r : List V → Hp → VK → Prop} (ha : EvZA K W tr ρ z) : EvZ K W (tCB r tr) ρ z := fun M T0 H T σ X Q e q => ha M T0 H T σ X _ e q
theorem ez_op1 {z : Exn} {ta tb : TE} {r : R2} (ha : EvZ K W ta ρ z) : EvZ K W (tOp r ta tb) ρ z := fun M T0 H T σ X Q e q => ha M T0 H T σ X _ e q
theorem ez_op2 {z : Exn} {ta tb : TE} {r : R2} (ha : EvD K ta ρ x) (h : EvZ K W tb ρ z) : EvZ K W (tOp r ta tb) ρ z := fun M T0 H T σ X Q e q =>
  ha M T0 H T σ X _ e fun v H1 T1 s1 t1 e1 i1 => h M T0 H1 T1 σ X _ e1 fun od H' T' s' t' e' hx => q od H' T' (s1.trans s') (t1.trans t') e' hx
end

/-! ### closed results, and what is read now (no matter who owns it) -/
section
variable (K : PySem.W.Frag)
def EvC (te : TE) (ρ : Rho) (d : D) : Prop := ∀ (M : Op) (T0 H T : Hp) (σ : L2.St) (X : Op) (Q : VK), EnX K M T0 H T σ ρ X → (∀ v Lc H' T', Same H H' → Same T T' → EnX K M T0 H' T' σ ρ (Lc ++ X) → IsC K H' d v Lc → Q v T') → te σ T Q
def EvCA (ta : TA) (ρ : Rho) (ds : List D) : Prop := ∀ (M : Op) (T0 H T : Hp) (σ : L2.St) (X : Op) (Q : List V → Hp → Prop), EnX K M T0 H T σ ρ X → (∀ vs Lc H' T', Same H H' → Same T T' → EnX K M T0 H' T' σ ρ (Lc ++ X) → IsCL K H' ds vs Lc → Q vs T') → ta σ T Q
def EvN (te : TE) (ρ : Rho) (d : D) : Prop := ∀ (M : Op) (T0 H T : Hp) (σ : L2.St) (X : Op) (Q : VK), EnX K M T0 H T σ ρ X → (∀ v H' T', Same H H' → Same T T' → EnX K M T0 H' T' σ ρ X → Is K T' d v → Q v T') → te σ T Q
def EvNA (ta : TA) (ρ : Rho) (ds : List D) : Prop := ∀ (M : Op) (T0 H T : Hp) (σ : L2.St) (X : Op) (Q : List V → Hp → Prop), EnX K M T0 H T σ ρ X → (∀ vs H' T', Same H H' → Same T T' → EnX K M T0 H' T' σ ρ X → IsL K T' ds vs → Q vs T') → ta σ T Q
end
section
variable {K : PySem.W.Frag} {ρ : Rho} {x y z d : D} {l : List D} {ds : List D} {te ta tb : TE} {tr : TA} {P : PrD} {E : XK} {r : R2} {i : Nat}
theorem ec_sc (h : EvD K te ρ d) (hs : d.sc = true) : EvC K te ρ d := fun M T0 H T σ X Q e q =>
  h M T0 H T σ X _ e fun v H1 T1 s1 t1 e1 i1 => q v [] H1 T1 s1 t1 e1 (i1.sc hs)
theorem ec_ow (h : EvO K te ρ l) (hs : ∀ d ∈ l, d.sc = true) : EvC K te ρ (.lst l) := fun M T0 H T σ X Q e q =>
  h M T0 H T σ X _ e fun p vs H1 T1 s1 t1 e1 i1 => q (.ref p) [(p, .lst vs)] H1 T1 s1 t1 e1 ⟨p, vs, [], rfl, rfl, i1.sc hs⟩
/-- known already -/
theorem ec_kn (h : EvD K te ρ d) : EvC K te ρ (.kn d) := fun M T0 H T σ X Q e q => h M T0 H T σ X _ e fun v H1 T1 s1 t1 e1 i1 => q v [] H1 T1 s1 t1 e1 ⟨i1, rfl⟩
theorem ec_is (h : EvC K te ρ x) (e : x = y) : EvC K te ρ y := e ▸ h
/-- known from now on -/
theorem ec_fz (h : EvC K te ρ d) : EvD K te ρ d := fun M T0 H T σ X Q e q =>
  h M T0 H T σ X _ e fun v Lc H1 T1 s1 t1 e1 i1 => by
    obtain ⟨H2, s2, e2, h2⟩ := e1.closeAll
    exact q v H2 T1 (s1.trans s2) t1 e2 (IsC.is d v Lc (i1.up s2) h2)
theorem eca_nil : EvCA K tNil ρ [] := fun M T0 H T σ X Q e q => q [] [] H T (Same.refl _) (Same.refl _) e ⟨rfl, rfl⟩
theorem eca_cons (ha : EvC K ta ρ x) (hr : EvCA K tr ρ ds) : EvCA K (tCons ta tr) ρ (x :: ds) := fun M T0 H T σ X Q e q =>
  ha M T0 H T σ X _ e fun v L1 H1 T1 s1 t1 e1 i1 => hr M T0 H1 T1 σ _ _ e1 fun vs L2 H2 T2 s2 t2 e2 i2 => q (v :: vs) (L1 ++ L2) H2 T2 (s1.trans s2) (t1.trans t2) (e2.perm (by
    rw [← List.append_assoc]
    exact List.perm_append_comm.append_right _)) (IsCL.cons (i1.up s2) i2)
theorem ec_tup (ha : EvCA K tr ρ ds) (hl : ds.length ≤ 1000) : EvC K (tTup tr) ρ (.tup ds) := fun M T0 H T σ X Q e q =>
  ha M T0 H T σ X _ e fun vs L H1 T1 s1 t1 e1 i1 => ⟨by rw [i1.len]; exact Nat.le_trans hl (by decide), fun p hp => q (.ref p) ((p, .tup vs) :: L) H1 _ s1 (t1.trans (same_new hp)) (e1.opened hp) ⟨p, vs, L, rfl, rfl, i1⟩⟩
theorem ec_lst (ha : EvCA K tr ρ ds) (hl : ds.length ≤ 1000) : EvC K (tLst tr) ρ (.lst ds) := fun M T0 H T σ X Q e q =>
  ha M T0 H T σ X _ e fun vs L H1 T1 s1 t1 e1 i1 => ⟨by rw [i1.len]; exact Nat.le_trans hl (by decide), fun p hp => q (.ref p) ((p, .lst vs) :: L) H1 _ s1 (t1.trans (same_new hp)) (e1.opened hp) ⟨p, vs, L, rfl, rfl, i1⟩⟩
theorem ec_call (ha : EvA K tr ρ ds) (hp : P ds (fun s => s = .cl z) (fun _ => False)) : EvC K (tCall (spD K P) [] E tr) ρ z := fun M T0 H T σ X Q e q =>
  ha M T0 H T σ X _ e fun vs H1 T1 s1 t1 e1 i1 => by
    obtain ⟨L, r, o, f⟩ := e1.ex
    show spD K P (vs ++ []) T1 Q E
    rw [List.append_nil]
    refine ⟨_, H1, ds, _, _, o, i1, hp, fun s v H' T' hs s' t' hr => ?_, fun _ _ _ _ _ _ h => h.elim⟩
    subst hs
    obtain ⟨Lc, e2, iz⟩ := e1.ret_cl r f s' t' hr
    exact q v Lc H' T' (s1.trans s') (t1.trans t') e2 iz
theorem ec_callS {W : L2.WX} (ha : EvA K tr ρ ds) (hp : P ds (fun s => s = .cl z) (fun _ => False)) : EvC K (tCallS (spD K P) (WE W) tr) ρ z := fun M T0 H T σ X Q e q =>
  ha M T0 H T σ X _ e fun vs H1 T1 s1 t1 e1 i1 => by
    obtain ⟨L, r, o, f⟩ := e1.ex
    refine ⟨_, H1, ds, _, _, o, i1, hp, fun s v H' T' hs s' t' hr => ?_, fun _ _ _ _ _ _ h => h.elim⟩
    subst hs
    obtain ⟨Lc, e2, iz⟩ := e1.ret_cl r f s' t' hr
    exact q v Lc H' T' (s1.trans s') (t1.trans t') e2 iz
/-! now -/
theorem en_d (h : EvD K te ρ d) : EvN K te ρ d := fun M T0 H T σ X Q e q => h M T0 H T σ X _ e fun v H1 T1 s1 t1 e1 i1 => q v H1 T1 s1 t1 e1 (i1.up e1.same)
theorem EnX.get_cl {M X : Op} {T0 H T : Hp} {σ : L2.St} (h : EnX K M T0 H T σ ρ X) (e : ρ[i]? = some (.cl d)) : ∃ v, σ[i]? = some (some v) ∧ Is K T d v := by
  obtain ⟨x, Ls, h1, h2, h3⟩ := h.take e
  obtain ⟨v, rfl, hc⟩ := h2.cl1
  refine ⟨v, h1, IsC.is d v Ls (hc.up h3.same) fun x hx => ?_⟩
  obtain ⟨L, r, q, f⟩ := h3.ex
  exact q.at_ x (List.mem_append_left _ (List.mem_append_left _ hx))
theorem en_cl (e : ρ[i]? = some (.cl d)) : EvN K (tVar i) ρ d := fun M T0 H T σ X Q en q => by
  obtain ⟨v, h1, h2⟩ := en.get_cl e
  exact ⟨v, h1, q v H T (Same.refl _) (Same.refl _) en h2⟩
theorem en_ow (e : ρ[i]? = some (.ow l)) : EvN K (tVar i) ρ (.lst l) := fun M T0 H T σ X Q en q => by
  obtain ⟨p, vs, h1, h2, h3, _⟩ := en.own e
  exact ⟨.ref p, h1, q _ H T (Same.refl _) (Same.refl _) en ⟨p, vs, rfl, h2, h3.up en.same⟩⟩
theorem en_op (ha : EvN K ta ρ x) (hb : EvN K tb ρ y) (hr : RvD K r x y z) : EvN K (tOp r ta tb) ρ z := fun M T0 H T σ X Q e q =>
  ha M T0 H T σ X _ e fun v H1 T1 s1 t1 e1 i1 => hb M T0 H1 T1 σ X _ e1 fun w H2 T2 s2 t2 e2 i2 => hr T2 T2 v w Q (Same.refl _) (i1.up t2) i2 fun u iu => q u H2 T2 (s1.trans s2) (t1.trans t2) e2 iu
theorem en_cb {r : List V → Hp → VK → Prop} (ha : EvNA K tr ρ ds) (hr : RcD K r ds z) : EvN K (tCB r tr) ρ z := fun M T0 H T σ X Q e q =>
  ha M T0 H T σ X _ e fun vs H1 T1 s1 t1 e1 i1 => hr T1 T1 vs Q (Same.refl _) i1 fun u iu => q u H1 T1 s1 t1 e1 iu
/-- a number, a text .. read now is one for ever -/
theorem ev_now (h : EvN K te ρ d) (hs : d.sc = true) : EvD K te ρ d := fun M T0 H T σ X Q e q => h M T0 H T σ X _ e fun v H1 T1 s1 t1 e1 i1 => q v H1 T1 s1 t1 e1 (i1.any hs)
theorem ena_nil : EvNA K tNil ρ [] := fun M T0 H T σ X Q e q => q [] H T (Same.refl _) (Same.refl _) e rfl
theorem ena_cons (ha : EvN K ta ρ x) (hr : EvNA K tr ρ ds) : EvNA K (tCons ta tr) ρ (x :: ds) := fun M T0 H T σ X Q e q =>
  ha M T0 H T σ X _ e fun v H1 T1 s1 t1 e1 i1 => hr M T0 H1 T1 σ X _ e1 fun vs H2 T2 s2 t2 e2 i2 => q (v :: vs) H2 T2 (s1.trans s2) (t1.trans t2) e2 (.cons (i1.up t2) i2)
theorem Opn.all {T : Hp} : Opn T T [] := ⟨Same.refl _, fun _ h => (nomatch h), fun _ h => (nomatch h), List.nodup_nil⟩
/-- after a call to which all was lent -/
theorem EnX.lent {M X : Op} {T0 H T T' : Hp} {σ : L2.St} (e : EnX K M T0 H T σ ρ X) (t : Same T T') : EnX K M T0 H T' σ ρ X := by
  obtain ⟨L, r, o, f⟩ := e.ex
  exact ⟨⟨L, r, ⟨o.same.trans t, o.free, fun x hx => t _ _ (o.at_ x hx), o.nd⟩, f⟩, e.t0.trans t⟩
theorem EnX.lentC {M X Lc : Op} {T0 H T T' H' : Hp} {σ : L2.St} (e : EnX K M T0 H T σ ρ X) (t : Same T T') (s : Same T H') (o' : Opn H' T' (Lc ++ [])) (f' : ∀ x ∈ Lc, T x.1 = none) : EnX K M T0 H T' σ ρ (Lc ++ X) := by
  rw [List.append_nil] at o'
  obtain ⟨L, r, o, f⟩ := e.ex
  refine ⟨⟨L, r, ⟨o.same.trans t, fun x hx => ?_, fun x hx => ?_, ?_⟩, fun x hx => ?_⟩, e.t0.trans t⟩
  · rw [List.append_assoc] at hx
    rcases List.mem_append.mp hx with hx | hx
    · exact o.same.free (f' x hx)
    · exact o.free x hx
  · rw [List.append_assoc] at hx
    rcases List.mem_append.mp hx with hx | hx
    · exact o'.at_ x hx
    · exact t _ _ (o.at_ x hx)
  · rw [List.append_assoc, List.map_append, List.nodup_append]
    refine ⟨o'.nd, o.nd, fun a ha b hb z => ?_⟩
    obtain ⟨x, hx, ex⟩ := List.mem_map.mp ha
    obtain ⟨y, hy, ey⟩ := List.mem_map.mp hb
    have h1 := f' x hx
    have h2 := o.at_ y hy
    rw [ex, z, ← ey, h2] at h1
    cases h1
  · rw [List.append_assoc] at hx
    rcases List.mem_append.mp hx with hx | hx
    · exact e.t0.free (f' x hx)
    · exact f x hx
/-- a call that may read all there is; it hands back a number, a text .. -/
theorem ev_callN (ha : EvNA K tr ρ ds) (hp : P ds (fun s => s = .im z) (fun _ => False)) (hz : z.sc = true) : EvD K (tCall (spD K P) [] E tr) ρ z := fun M T0 H T σ X Q e q =>
  ha M T0 H T σ X _ e fun vs H1 T1 s1 t1 e1 i1 => by
    show spD K P (vs ++ []) T1 Q E
    rw [List.append_nil]
    refine ⟨[], T1, ds, _, _, Opn.all, i1, hp, fun s v H' T' hs s' t' hr => ?_, fun _ _ _ _ _ _ h => h.elim⟩
    subst hs
    exact q v H1 T' s1 (t1.trans t') (e1.lent t') (hr.1.any hz)
/-- a call that may read all there is; it hands back something closed -/
theorem ec_callN (ha : EvNA K tr ρ ds) (hp : P ds (fun s => s = .cl z) (fun _ => False)) (hk : z.kf = true) : EvC K (tCall (spD K P) [] E tr) ρ z := fun M T0 H T σ X Q e q =>
  ha M T0 H T σ X _ e fun vs H1 T1 s1 t1 e1 i1 => by
    show spD K P (vs ++ []) T1 Q E
    rw [List.append_nil]
    refine ⟨[], T1, ds, _, _, Opn.all, i1, hp, fun s v H' T' hs s' t' hr => ?_, fun _ _ _ _ _ _ h => h.elim⟩
    subst hs
    obtain ⟨Lc, h1, h2, h3⟩ := hr
    exact q v Lc H1 T' s1 (t1.trans t') (e1.lentC t' s' h2 h3) (IsC.any z v Lc hk h1)
theorem ec_cbN {r : List V → Hp → VK → Prop} (ha : EvNA K tr ρ ds) (hr : RcO K r ds l) (hs : ∀ d ∈ l, d.sc = true) : EvC K (tCB r tr) ρ (.lst l) := fun M T0 H T σ X Q e q =>
  ha M T0 H T σ X _ e fun vs H1 T1 s1 t1 e1 i1 => hr T1 T1 vs Q (Same.refl _) i1 fun p us hp iu => q (.ref p) [(p, .lst us)] H1 _ s1 (t1.trans (same_new hp)) (e1.opened hp) ⟨p, us, [], rfl, rfl, IsCL.any l us [] (D.kfL_of fun d hd => D.sc_kf (hs d hd)) (iu.sc hs)⟩
end
end FS
set_option Elab.async false
set_option linter.all false
set_option maxRecDepth 100000
set_option maxHeartbeats 4000000
namespace FS
open PySem PySem.Spec PyProof.Rows L2

/-! ### statements -/
structure Pst where
  nx : Rho → Prop
  rt : Sl → Prop := fun _ => False
  bk : Rho → Prop := fun _ => False
  ct : Rho → Prop := fun _ => False
  ex : Rho → Exn → Prop := fun _ _ => False
structure Lk (K : PySem.W.Frag) (M : Op) (E : L2.WX) (T0 H : Hp) (P : Pst) (Dn : Ends) : Prop where
  nx : ∀ ρ' σ' H' T', P.nx ρ' → Same H H' → En K M T0 H' T' σ' ρ' → Dn.nx σ' T'
  rt : ∀ s v H' T', P.rt s → Same H H' → Same T0 T' → RetR K M T0 H' T' v s → Dn.rt v T'
  bk : ∀ ρ' σ' H' T', P.bk ρ' → Same H H' → En K M T0 H' T' σ' ρ' → Dn.bk σ' T'
  ct : ∀ ρ' σ' H' T', P.ct ρ' → Same H H' → En K M T0 H' T' σ' ρ' → Dn.ct σ' T'
  ex : ∀ ρ' σ' c ns es od H' T', P.ex ρ' (c, ns, es) → Same H H' → En K M T0 H' T' σ' ρ' → IsX K H' od ns es → E c od σ' T'
/-- from ρ on, the code ends as P says -/
def Ws (K : PySem.W.Frag) (E : L2.WX) (ts : TS) (ρ : Rho) (P : Pst) : Prop := ∀ (M : Op) (T0 H T : Hp) (σ : L2.St) (Dn : Ends), En K M T0 H T σ ρ → Lk K M E T0 H P Dn → ts Dn σ T

section
variable {K : PySem.W.Frag} {E : L2.WX} {ρ : Rho} {P : Pst} {M X : Op} {T0 H H' T T' : Hp} {σ : L2.St} {Dn : Ends} {te ta tb : TE} {t u : TS} {tt : TT} {d x y : D} {l : List D} {ds : List D} {tr : TA} {g : TG} {i : Nat}
theorem Lk.up (k : Lk K M E T0 H P Dn) (s : Same H H') : Lk K M E T0 H' P Dn :=
  ⟨fun ρ' σ' H2 T' p s' e => k.nx ρ' σ' H2 T' p (s.trans s') e, fun v w H2 T' p s' t' e => k.rt v w H2 T' p (s.trans s') t' e, fun ρ' σ' H2 T' p s' e => k.bk ρ' σ' H2 T' p (s.trans s') e, fun ρ' σ' H2 T' p s' e => k.ct ρ' σ' H2 T' p (s.trans s') e,
    fun ρ' σ' c ns es od H2 T' p s' e => k.ex ρ' σ' c ns es od H2 T' p (s.trans s') e⟩
theorem ws_seq (h : Ws K E t ρ { P with nx := fun ρ' => Ws K E u ρ' P }) : Ws K E (tSeq t u) ρ P := fun M T0 H T σ Dn e k =>
  h M T0 H T σ { Dn with nx := u Dn } e ⟨fun ρ' σ' H' T' p s e' => p M T0 H' T' σ' Dn e' (k.up s), k.rt, k.bk, k.ct, k.ex⟩
theorem ws_mono {P' : Pst} (h : Ws K E t ρ P) (h1 : ∀ ρ', P.nx ρ' → P'.nx ρ') (h2 : ∀ s, P.rt s → P'.rt s) (h3 : ∀ ρ', P.bk ρ' → P'.bk ρ') (h4 : ∀ ρ', P.ct ρ' → P'.ct ρ') (h5 : ∀ ρ' z, P.ex ρ' z → P'.ex ρ' z) : Ws K E t ρ P' := fun M T0 H T σ Dn e k =>
  h M T0 H T σ Dn e ⟨fun ρ' σ' H' T' p => k.nx ρ' σ' H' T' (h1 ρ' p), fun s v H' T' p => k.rt s v H' T' (h2 s p), fun ρ' σ' H' T' p => k.bk ρ' σ' H' T' (h3 ρ' p), fun ρ' σ' H' T' p => k.ct ρ' σ' H' T' (h4 ρ' p), fun ρ' σ' c ns es od H' T' p => k.ex ρ' σ' c ns es od H' T' (h5 _ _ p)⟩
theorem ws_next (h : P.nx ρ) : Ws K E tNext ρ P := fun M T0 H T σ Dn e k => k.nx ρ σ H T h (Same.refl _) e
theorem ws_break (h : P.bk ρ) : Ws K E tBreak ρ P := fun M T0 H T σ Dn e k => k.bk ρ σ H T h (Same.refl _) e
theorem ws_cont (h : P.ct ρ) : Ws K E tCont ρ P := fun M T0 H T σ Dn e k => k.ct ρ σ H T h (Same.refl _) e
theorem ws_asg (hv : EvD K te ρ d) (h : P.nx (ρ.set i (.im d))) : Ws K E (tAsg te (gName i)) ρ P := fun M T0 H T σ Dn e k =>
  hv M T0 H T σ [] _ e fun v H' T' s t' e' iv => k.nx _ _ H' T' h s (e'.set iv)
theorem ws_asgO (hv : EvO K te ρ l) (hi : i < ρ.length) (h : P.nx (ρ.set i (.ow l))) : Ws K E (tAsg te (gName i)) ρ P := fun M T0 H T σ Dn e k =>
  hv M T0 H T σ [] _ e fun p vs H' T' s t' e' iv => k.nx _ _ H' T' h s (EnX.setO e' hi iv)
theorem ws_asgC (hv : EvC K te ρ d) (hi : i < ρ.length) (h : P.nx (ρ.set i (.cl d))) : Ws K E (tAsg te (gName i)) ρ P := fun M T0 H T σ Dn e k =>
  hv M T0 H T σ [] _ e fun v Lc H' T' s t' e' iv => k.nx _ _ H' T' h s (EnX.setC e' hi iv)
theorem ws_drop (hv : EvD K te ρ d) (h : P.nx ρ) : Ws K E (tDrop te) ρ P := fun M T0 H T σ Dn e k =>
  hv M T0 H T σ [] _ e fun v H' T' s t' e' iv => k.nx _ _ H' T' h s e'
theorem ws_ret (hv : EvD K te ρ d) (h : P.rt (.im d)) : Ws K E (tRet te) ρ P := fun M T0 H T σ Dn e k =>
  hv M T0 H T σ [] _ e fun v H' T' s t' e' iv => k.rt (.im d) v H' T' h s e'.t0 ⟨iv, e'.frame⟩
theorem EnX.give (e : EnX K M T0 H T σ ρ (X ++ [])) : Opn H T (X ++ M) ∧ ∀ x ∈ X, T0 x.1 = none := by
  rw [List.append_nil] at e
  obtain ⟨L, r, q, f⟩ := e.ex
  exact ⟨q.sub ((List.Sublist.refl X).append (List.sublist_append_right L M)), fun x hx => f x (List.mem_append_left _ hx)⟩
theorem ws_retO (hv : EvO K te ρ l) (h : P.rt (.ow l)) : Ws K E (tRet te) ρ P := fun M T0 H T σ Dn e k =>
  hv M T0 H T σ [] _ e fun p vs H' T' s t' e' iv => k.rt (.ow l) (.ref p) H' T' h s e'.t0 ⟨p, vs, rfl, iv, (EnX.give (X := [(p, .lst vs)]) e').1, (EnX.give (X := [(p, .lst vs)]) e').2 _ List.mem_cons_self⟩
theorem ws_retC (hv : EvC K te ρ d) (h : P.rt (.cl d)) : Ws K E (tRet te) ρ P := fun M T0 H T σ Dn e k =>
  hv M T0 H T σ [] _ e fun v Lc H' T' s t' e' iv => k.rt (.cl d) v H' T' h s e'.t0 ⟨Lc, iv, (EnX.give e').1, (EnX.give e').2⟩
/-- return x, x an open list, a closed tree -/
theorem ws_retV (e : ρ[i]? = some (.ow l)) (h : P.rt (.ow l)) : Ws K E (tRet (tVar i)) ρ P := fun M T0 H T σ Dn en k => by
  obtain ⟨p, vs, h1, h2, h4, h5, h6, h7⟩ := en.own e
  exact ⟨.ref p, h1, k.rt (.ow l) (.ref p) H T h (Same.refl _) en.t0 ⟨p, vs, rfl, h4, (EnX.give (X := [(p, .lst vs)]) h7).1, (EnX.give (X := [(p, .lst vs)]) h7).2 _ List.mem_cons_self⟩⟩
theorem ws_retVc (e : ρ[i]? = some (.cl d)) (h : P.rt (.cl d)) : Ws K E (tRet (tVar i)) ρ P := fun M T0 H T σ Dn en k => by
  obtain ⟨x, Ls, h1, h2, h3⟩ := en.take e
  obtain ⟨v, rfl, hc⟩ := h2.cl1
  exact ⟨v, h1, k.rt (.cl d) v H T h (Same.refl _) en.t0 ⟨Ls, hc, (EnX.give h3).1, (EnX.give h3).2⟩⟩
theorem ws_retN (h : P.rt (.im .non)) : Ws K E tRetN ρ P := fun M T0 H T σ Dn e k => k.rt (.im .non) .non H T h (Same.refl _) e.t0 ⟨rfl, e.frame⟩
theorem ws_if {b : Bool} (hc : EvT K tt ρ b) (h1 : b = true → Ws K E t ρ P) (h2 : b = false → Ws K E u ρ P) : Ws K E (tIfS tt t u) ρ P := fun M T0 H T σ Dn e k =>
  hc M T0 H T σ [] _ e fun H' T' s t' e' => by
    cases b with
    | true =>
      show t Dn σ T'
      exact h1 rfl M T0 H' T' σ Dn e' (k.up s)
    | false =>
      show u Dn σ T'
      exact h2 rfl M T0 H' T' σ Dn e' (k.up s)
/-- the open list at slot i is known from now on -/
theorem ws_fz (e : ρ[i]? = some (.ow l)) (h : Ws K E t (ρ.set i (.im (.lst l))) P) : Ws K E t ρ P := fun M T0 H T σ Dn en k => by
  obtain ⟨p, vs, h1, h2, h4, h5, ⟨s, h6⟩, h7⟩ := en.own e
  exact h M T0 _ T σ Dn h6 (k.up s)
theorem ws_fzC (e : ρ[i]? = some (.cl d)) (h : Ws K E t (ρ.set i (.im d)) P) : Ws K E t ρ P := fun M T0 H T σ Dn en k => by
  obtain ⟨x, Ls, h1, h2, h3⟩ := en.take e
  obtain ⟨v, rfl, hc⟩ := h2.cl1
  obtain ⟨H2, s2, e2, h4⟩ := h3.closeAll
  have e3 := e2.set (i := i) (IsC.is (K := K) d v Ls (hc.up s2) h4)
  rw [set_self h1, List.set_set] at e3
  exact h M T0 H2 T σ Dn e3 (k.up s2)
/-- an open list of numbers is a closed tree -/
theorem ws_owcl (e : ρ[i]? = some (.ow l)) (hs : ∀ d ∈ l, d.sc = true) (h : Ws K E t (ρ.set i (.cl (.lst l))) P) : Ws K E t ρ P := fun M T0 H T σ Dn en k => by
  obtain ⟨x, Ls, h1, h2, h3⟩ := en.take e
  obtain ⟨p, vs, rfl, rfl, hl⟩ := h2.ow1
  have hi : i < (ρ.set i .no).length := by rw [List.length_set]; exact (List.getElem?_eq_some_iff.mp e).1
  have e3 := EnX.setC (Lc := [(p, .lst vs)]) (d := .lst l) (v := .ref p) h3 hi ⟨p, vs, [], rfl, rfl, hl.sc hs⟩
  rw [set_self h1, List.set_set] at e3
  exact h M T0 H T σ Dn e3 k
/-- a slot forgotten -/
theorem ws_forget (hi : i < ρ.length) (h : Ws K E t (ρ.set i .no) P) : Ws K E t ρ P := fun M T0 H T σ Dn en k => by
  obtain ⟨x, hx⟩ := get_some (l := σ) (i := i) (by rw [en.len]; exact hi)
  have e2 := en.drop (i := i) (x := x)
  rw [set_self hx] at e2
  exact h M T0 H T σ Dn e2 k
/-- xs.append(e), xs an open list -/
theorem ws_app (e : ρ[i]? = some (.ow l)) (hv : EvD K te ρ d) (hz : l.length < 100000) (h : P.nx (ρ.set i (.ow (l ++ [d])))) : Ws K E (tDrop (tBM K "list" rAppend (tVar i) (tCons te tNil))) ρ P := fun M T0 H T σ Dn en k => by
  obtain ⟨p, vs, h1, h2, h4, _⟩ := en.own e
  refine ⟨.ref p, h1, .inl ⟨rfl, vs, .inl (.inl h2)⟩, hv M T0 H T σ [] _ en fun v H' T' s t' e' iv => ?_⟩
  obtain ⟨p', vs', g1, g2, g4, g5, _⟩ := e'.own e
  rw [h1] at g1
  cases g1
  exact ⟨p, vs', v, rfl, rfl, g2, by rw [g4.len]; exact Nat.lt_of_lt_of_le hz (by decide), k.nx _ _ _ _ h s (g5 _ _ (g4.app (.one iv)))⟩
/-- xs[j] = e, xs an open list -/
theorem ws_setL {j : Nat} {z : Int} (e : ρ[i]? = some (.ow l)) (hv : EvD K te ρ d) (hi : EvD K tb ρ (.int z)) (hj : ixN l.length z = some j) (h : P.nx (ρ.set i (.ow (l.set j d)))) : Ws K E (tAsg te (gSub (tVar i) tb rSetL)) ρ P := fun M T0 H T σ Dn en k =>
  hv M T0 H T σ [] _ en fun v H1 T1 s1 t1 e1 i1 => by
    obtain ⟨p, vs, h1, h2, h4, _⟩ := e1.own e
    refine ⟨.ref p, h1, hi M T0 H1 T1 σ [] _ e1 fun w H2 T2 s2 t2 e2 i2 => ?_⟩
    obtain ⟨p', vs', g1, g2, g4, g5, _⟩ := e2.own e
    rw [h1] at g1
    cases g1
    exact ⟨p, vs', z, j, rfl, i2, g2, by rw [g4.len]; exact hj, k.nx _ _ _ _ h (s1.trans s2) (g5 _ _ (IsL.set (i1.up s2) j g4))⟩
/-- name op= e -/
theorem ws_aug {r : R2} {z : D} (e : ρ[i]? = some (.im x)) (hv : EvD K te ρ y) (hr : RvD K r x y z) (h : P.nx (ρ.set i (.im z))) : Ws K E (tAug i te r) ρ P := fun M T0 H T σ Dn en k => by
  obtain ⟨v, h1, h2⟩ := en.get e
  refine ⟨v, h1, hv M T0 H T σ [] _ en fun w H1 T1 s1 t1 e1 i1 => hr H1 T1 v w _ e1.same (h2.up s1) i1 fun u iu => k.nx _ _ H1 T1 h s1 (e1.set iu)⟩
/-! raising calls -/
def okSl (P : Rho → Prop) (ρ : Rho) (i : Nat) : Sl → Prop
  | .no => False
  | s => P (ρ.set i s)
theorem ws_asgX {Pr : PrD} (ha : EvA K tr ρ ds) (hi : i < ρ.length) (h : Pr ds (okSl P.nx ρ i) (P.ex ρ)) : Ws K E (tAsg (tCallS (spD K Pr) (WE E) tr) (gName i)) ρ P := fun M T0 H T σ Dn en k =>
  ha M T0 H T σ [] _ en fun vs H1 T1 s1 t1 e1 i1 => by
    obtain ⟨L, r, o, f⟩ := e1.ex
    refine ⟨L ++ M, H1, ds, _, _, o, i1, h, fun s v H' T' hs s' t' hr => ?_, fun c ns es od H' T' hz s' t' o' hx => k.ex ρ σ c ns es od H' T' hz (s1.trans s') ⟨⟨L, r.up s', o', f⟩, e1.t0.trans t'⟩ hx⟩
    cases s with
    | no => exact hs.elim
    | im d =>
      obtain ⟨e2, iz⟩ := e1.ret_im (X := []) r f s' t' hr
      exact k.nx _ _ H' T' hs (s1.trans s') (e2.set iz)
    | ow l =>
      obtain ⟨p, us, rfl, e2, iz⟩ := e1.ret_ow (X := []) r f s' t' hr
      exact k.nx _ _ H' T' hs (s1.trans s') (e2.setO hi iz)
    | cl d =>
      obtain ⟨Lc, e2, iz⟩ := e1.ret_cl (X := []) r f s' t' hr
      exact k.nx _ _ H' T' hs (s1.trans s') (e2.setC hi iz)
theorem ws_dropX {Pr : PrD} (ha : EvA K tr ρ ds) (h : Pr ds (fun s => s ≠ .no → P.nx ρ) (P.ex ρ)) : Ws K E (tDrop (tCallS (spD K Pr) (WE E) tr)) ρ P := fun M T0 H T σ Dn en k =>
  ha M T0 H T σ [] _ en fun vs H1 T1 s1 t1 e1 i1 => by
    obtain ⟨L, r, o, f⟩ := e1.ex
    refine ⟨L ++ M, H1, ds, _, _, o, i1, h, fun s v H' T' hs s' t' hr => ?_, fun c ns es od H' T' hz s' t' o' hx => k.ex ρ σ c ns es od H' T' hz (s1.trans s') ⟨⟨L, r.up s', o', f⟩, e1.t0.trans t'⟩ hx⟩
    cases s with
    | no => exact hr.elim
    | im d =>
      obtain ⟨e2, iz⟩ := e1.ret_im (X := []) r f s' t' hr
      exact k.nx _ _ H' T' (hs (fun z => by cases z)) (s1.trans s') e2
    | ow l =>
      obtain ⟨p, us, rfl, e2, iz⟩ := e1.ret_ow (X := []) r f s' t' hr
      exact k.nx _ _ H' T' (hs (fun z => by cases z)) (s1.trans s') (e2.sub (List.nil_sublist _))
    | cl d =>
      obtain ⟨Lc, e2, iz⟩ := e1.ret_cl (X := []) r f s' t' hr
      exact k.nx _ _ H' T' (hs (fun z => by cases z)) (s1.trans s') (e2.sub (List.nil_sublist _))
theorem ws_retX {Pr : PrD} (ha : EvA K tr ρ ds) (h : Pr ds P.rt (P.ex ρ)) : Ws K E (tRet (tCallS (spD K Pr) (WE E) tr)) ρ P := fun M T0 H T σ Dn en k =>
  ha M T0 H T σ [] _ en fun vs H1 T1 s1 t1 e1 i1 => by
    obtain ⟨L, r, o, f⟩ := e1.ex
    refine ⟨L ++ M, H1, ds, _, _, o, i1, h, fun s v H' T' hs s' t' hr => ?_, fun c ns es od H' T' hz s' t' o' hx => k.ex ρ σ c ns es od H' T' hz (s1.trans s') ⟨⟨L, r.up s', o', f⟩, e1.t0.trans t'⟩ hx⟩
    refine k.rt s v H' T' hs (s1.trans s') (e1.t0.trans t') ?_
    cases s with
    | no => exact hr
    | im d => exact ⟨hr.1, hr.2.sub (List.sublist_append_right _ _)⟩
    | ow l =>
      obtain ⟨p, us, rfl, h1, h2, h3⟩ := hr
      exact ⟨p, us, rfl, h1, h2.sub ((List.sublist_append_right _ _).cons_cons _), e1.t0.free h3⟩
    | cl d =>
      obtain ⟨Lc, h1, h2, h3⟩ := hr
      exact ⟨Lc, h1, h2.sub ((List.Sublist.refl Lc).append (List.sublist_append_right _ _)), fun x hx => e1.t0.free (h3 x hx)⟩
/-! what raises -/
theorem ws_asgZ {z : Exn} (h : EvZ K E te ρ z) (hz : P.ex ρ z) : Ws K E (tAsg te g) ρ P := fun M T0 H T σ Dn en k =>
  h M T0 H T σ [] _ en fun od H' T' s' t' e' hx => k.ex ρ σ z.1 z.2.1 z.2.2 od H' T' hz s' e' hx
theorem ws_dropZ {z : Exn} (h : EvZ K E te ρ z) (hz : P.ex ρ z) : Ws K E (tDrop te) ρ P := fun M T0 H T σ Dn en k =>
  h M T0 H T σ [] _ en fun od H' T' s' t' e' hx => k.ex ρ σ z.1 z.2.1 z.2.2 od H' T' hz s' e' hx
theorem ws_retZ {z : Exn} (h : EvZ K E te ρ z) (hz : P.ex ρ z) : Ws K E (tRet te) ρ P := fun M T0 H T σ Dn en k =>
  h M T0 H T σ [] _ en fun od H' T' s' t' e' hx => k.ex ρ σ z.1 z.2.1 z.2.2 od H' T' hz s' e' hx
/-- raise X('m') -/
abbrev tRaise0 (W : L2.WX) (c : Value) : TS := fun _ σ H => W c none σ H
theorem ws_raise0 {c : Value} (hz : P.ex ρ (c, [], [])) : Ws K E (tRaise0 E c) ρ P := fun M T0 H T σ Dn en k =>
  k.ex ρ σ c [] [] none H T hz (Same.refl _) en (.inl ⟨rfl, rfl⟩)
/-- try: .. except x as n: .. -/
theorem ws_try {tb : L2.WX → TS} {ts : Addr → Value → Option Addr → TS} {c : Value} {Pc : Rho → Exn → Prop} (hb : ∀ W, Ws K W (tb W) ρ { P with ex := Pc })
    (hc : ∀ ρ' z, Pc ρ' z → ∃ b, PySem.W.exmOne K z.1 c = some b ∧
      (b = true → ∀ a od, Ws K E (ts a z.1 od) (ρ'.set i (.im (.exc a od z.2.1 z.2.2))) { nx := fun ρ2 => P.nx (ρ2.set i .no), rt := P.rt, bk := fun ρ2 => P.bk (ρ2.set i .no), ct := fun ρ2 => P.ct (ρ2.set i .no) }) ∧ (b = false → P.ex ρ' z)) :
    Ws K E (fun Dn σ H => tb (wAs K c i ts E Dn) Dn σ H) ρ P := fun M T0 H T σ Dn en k =>
  hb _ M T0 H T σ Dn en ⟨k.nx, k.rt, k.bk, k.ct, fun ρ' σ' cl ns es od H' T' hz s' e' hx => by
    obtain ⟨b, h1, h2, h3⟩ := hc ρ' (cl, ns, es) hz
    refine ⟨b, h1, fun hbt a ha => ?_, fun hbf => k.ex ρ' σ' cl ns es od H' T' (h3 hbf) s' e' hx⟩
    have e2 := EnX.set (i := i) (d := .exc a od ns es) (v := .ref a) e' ⟨rfl, hx⟩
    refine h2 hbt a od M T0 H' T' _ _ e2 ⟨fun ρ2 σ2 H2 T2 p s2 en2 => k.nx _ _ H2 T2 p (s'.trans s2) en2.drop, fun s v H2 T2 p s2 => k.rt s v H2 T2 p (s'.trans s2), fun ρ2 σ2 H2 T2 p s2 en2 => k.bk _ _ H2 T2 p (s'.trans s2) en2.drop, fun ρ2 σ2 H2 T2 p s2 en2 => k.ct _ _ H2 T2 p (s'.trans s2) en2.drop, fun _ _ _ _ _ _ _ _ hz => hz.elim⟩⟩
/-- what is never reached -/
abbrev tNo : TS := fun _ _ _ => False
end

/-! ### what is walked -/
def Grow (H T H' T' : Hp) : Prop := (H' = H ∧ T' = T) ∨ ∃ a o, T a = none ∧ T' = upd T a o ∧ H' = upd H a o
def JD (K : PySem.W.Frag) (H1 : Hp) (J : It) (l : List D) : Prop := ∀ (i : Nat) (H T : Hp), Same H1 H → Same H T →
  (∀ d, l[i]? = some d → J.go i T ∧ ∀ x T', J.yld i T x T' → ∃ H', Grow H T H' T' ∧ Is K H' d x) ∧ (l.length ≤ i → J.stop i T)
def SrcD (K : PySem.W.Frag) (wi : TI) (ρ : Rho) (l : List D) : Prop := ∀ (M : Op) (T0 H T : Hp) (σ : L2.St) (X : Op) (R : It → Hp → Prop), EnX K M T0 H T σ ρ X → (∀ J H' T', Same H H' → Same T T' → EnX K M T0 H' T' σ ρ X → JD K H' J l → R J T') → wi σ T R
section
variable {K : PySem.W.Frag} {E : L2.WX} {ρ : Rho} {P : Pst} {M X : Op} {T0 H H' T T' : Hp} {σ : L2.St} {Dn : Ends} {te tl : TE} {t u tb : TS} {tt : TT} {d x y : D} {l : List D} {ds : List D} {ta : TA} {g : TG} {i : Nat} {wi : TI}
theorem EnX.grow (h : EnX K M T0 H T σ ρ X) (gr : Grow H T H' T') : Same H H' ∧ Same T T' ∧ EnX K M T0 H' T' σ ρ X := by
  rcases gr with ⟨rfl, rfl⟩ | ⟨a, o, ha, rfl, rfl⟩
  · exact ⟨Same.refl _, Same.refl _, h⟩
  · exact ⟨(h.new ha).1, same_new ha, (h.new ha).2⟩
theorem src_list (h : EvD K tl ρ (.lst l)) : SrcD K (iList K tl) ρ l := fun M T0 H T σ X R e q =>
  h M T0 H T σ X _ e fun v H1 T1 s1 t1 e1 ⟨a, vs, ev, h1, h2⟩ => by
    subst ev
    refine ⟨a, rfl, ⟨vs, .inl (.inl (e1.same _ _ h1))⟩, q _ H1 T1 s1 t1 e1 fun i H2 T2 sa sb => ⟨fun d hd => ?_, fun hl => ⟨vs, .inl (.inl (sb _ _ (sa _ _ h1))), by rw [h2.len]; exact hl⟩⟩⟩
    obtain ⟨v, g1, g2⟩ := h2.get hd
    have hq : SqL K T2 a vs := .inl (.inl (sb _ _ (sa _ _ h1)))
    refine ⟨⟨vs, v, hq, g1⟩, fun x T' ⟨e1, e2⟩ => ⟨H2, .inl ⟨rfl, e1⟩, ?_⟩⟩
    have := e2 vs hq
    rw [g1] at this
    cases this
    exact g2.up sa
theorem src_tup (h : EvD K tl ρ (.tup l)) : SrcD K (iTup K tl) ρ l := fun M T0 H T σ X R e q =>
  h M T0 H T σ X _ e fun v H1 T1 s1 t1 e1 ⟨a, vs, ev, h1, h2⟩ => by
    subst ev
    refine ⟨a, rfl, ⟨vs, same_t e1.same h1⟩, q _ H1 T1 s1 t1 e1 fun i H2 T2 sa sb => ⟨fun d hd => ?_, fun hl => ⟨vs, same_t (sa.trans sb) h1, by rw [h2.len]; exact hl⟩⟩⟩
    obtain ⟨v, g1, g2⟩ := h2.get hd
    have hq : SqT K T2 a vs := same_t (sa.trans sb) h1
    refine ⟨⟨vs, v, hq, g1⟩, fun x T' ⟨e1, e2⟩ => ⟨H2, .inl ⟨rfl, e1⟩, ?_⟩⟩
    have := e2 vs hq
    rw [g1] at this
    cases this
    exact g2.up sa
theorem src_scr {ns : List Int} (h : EvD K tl ρ (.scr ns)) : SrcD K (iList K tl) ρ (ns.map .int) := fun M T0 H T σ X R e q =>
  h M T0 H T σ X _ e fun v H1 T1 s1 t1 e1 ⟨a, ev, h1⟩ => by
    subst ev
    refine ⟨a, rfl, ⟨_, e1.same.seq h1⟩, q _ H1 T1 s1 t1 e1 fun i H2 T2 sa sb => ⟨fun d hd => ?_, fun hl => ⟨_, (sa.trans sb).seq h1, by rw [List.length_map] at hl ⊢; exact hl⟩⟩⟩
    have hq : SqL K T2 a (ns.map V.int) := (sa.trans sb).seq h1
    rw [List.getElem?_map] at hd
    cases hn : ns[i]? with
    | none => rw [hn] at hd; cases hd
    | some n =>
      rw [hn] at hd
      cases hd
      refine ⟨⟨_, .int n, hq, by rw [List.getElem?_map, hn]; rfl⟩, fun x T' ⟨e1, e2⟩ => ⟨H2, .inl ⟨rfl, e1⟩, ?_⟩⟩
      have := e2 _ hq
      rw [List.getElem?_map, hn] at this
      cases this
      exact rfl
/-- lo, lo + 1, .. -/
def rng (lo : Int) (n : Nat) : List D := (List.range n).map fun (k : Nat) => D.int (lo + (k : Int))
theorem rng_len {lo : Int} {n : Nat} : (rng lo n).length = n := by simp [rng]
theorem rng_get {lo : Int} {n i : Nat} {d : D} (h : (rng lo n)[i]? = some d) : i < n ∧ d = .int (lo + (i : Int)) := by
  unfold rng at h
  rw [List.getElem?_map] at h
  by_cases hi : i < n
  · rw [List.getElem?_range hi] at h
    cases h
    exact ⟨hi, rfl⟩
  · rw [List.getElem?_eq_none (by simpa using hi)] at h
    cases h
theorem jd_rng {lo : Int} {n : Nat} : JD K H (Itr lo n) (rng lo n) := fun i H2 T2 sa sb =>
  ⟨fun d hd => ⟨(rng_get hd).1, fun x T' ⟨e1, e2⟩ => ⟨H2, .inl ⟨rfl, e1⟩, by rw [(rng_get hd).2, e2]; exact rfl⟩⟩, fun hl => by rw [rng_len] at hl; exact hl⟩
theorem src_rng1 {n : Int} (h : EvA K ta ρ [.int n]) (hn : -1000000 ≤ n ∧ n ≤ 1000000) : SrcD K (iRng1 ta) ρ (rng 0 n.toNat) := fun M T0 H T σ X R e q =>
  h M T0 H T σ X _ e fun vs H1 T1 s1 t1 e1 hv => by
    obtain ⟨v, rfl, hu⟩ := isL_one hv
    exact ⟨n, by rw [show v = V.int n from hu], by omega, by omega, q _ H1 T1 s1 t1 e1 jd_rng⟩
theorem src_rng2 {lo n : Int} (h : EvA K ta ρ [.int lo, .int n]) (hn : -1000000 ≤ lo ∧ lo ≤ 1000000 ∧ -1000000 ≤ n ∧ n ≤ 1000000) : SrcD K (iRng2 ta) ρ (rng lo (n - lo).toNat) := fun M T0 H T σ X R e q =>
  h M T0 H T σ X _ e fun vs H1 T1 s1 t1 e1 hv => by
    obtain ⟨v, w, rfl, hu, hw⟩ := isL_two hv
    exact ⟨lo, n, by rw [show v = V.int lo from hu, show w = V.int n from hw], ⟨by omega, by omega, by omega, by omega⟩, q _ H1 T1 s1 t1 e1 jd_rng⟩

/-! ### targets -/
def setD (ρ : Rho) : List (Nat × D) → Rho
  | [] => ρ
  | (i, d) :: r => setD (ρ.set i (.im d)) r
def setV (σ : L2.St) : List (Nat × D) → List V → L2.St
  | (i, _) :: r, v :: vs => setV (σ.set i (some v)) r vs
  | _, _ => σ
theorem EnX.setAll : ∀ {as : List (Nat × D)} {vs : List V} {σ : L2.St} {ρ : Rho}, EnX K M T0 H T σ ρ X → IsL K H (as.map (·.2)) vs → EnX K M T0 H T (setV σ as vs) (setD ρ as) X
  | [], vs, σ, ρ, h, _ => by
    cases vs <;> exact h
  | (i, d) :: r, _, σ, ρ, h, ⟨v, vs, e, h1, h2⟩ => by
    rw [e]
    exact EnX.setAll (as := r) (h.set h1) h2
/-- the target takes d apart into these slots -/
def GDs (K : PySem.W.Frag) (g : TG) (d : D) (as : List (Nat × D)) : Prop := ∀ (H T : Hp) (σ : L2.St) (v : V) (Q : L2.St → Hp → Prop), Same H T → Is K H d v → (∀ vs, IsL K H (as.map (·.2)) vs → Q (setV σ as vs) T) → g v σ T Q
theorem gd_name {j : Nat} : GDs K (gName j) d [(j, d)] := fun H T σ v Q s h q => q [v] (.one h)
def GTs (K : PySem.W.Frag) (g : TGs) (ds : List D) (as : List (Nat × D)) : Prop := ∀ (H T : Hp) (σ : L2.St) (vs : List V) (Q : L2.St → Hp → Prop), Same H T → IsL K H ds vs → (∀ us, IsL K H (as.map (·.2)) us → Q (setV σ as us) T) → g vs σ T Q
theorem gt_nil : GTs K gNil [] [] := fun H T σ vs Q s h q => ⟨h, q [] rfl⟩
theorem setV_app : ∀ (as bs : List (Nat × D)) (us ws : List V) (σ : L2.St), us.length = as.length → setV (setV σ as us) bs ws = setV σ (as ++ bs) (us ++ ws)
  | [], bs, [], ws, σ, _ => rfl
  | (i, d) :: r, bs, u :: us, ws, σ, h => setV_app r bs us ws (σ.set i (some u)) (by simpa using h)
  | [], _, _ :: _, _, _, h => by simp at h
  | _ :: _, _, [], _, _, h => by simp at h
theorem gt_cons {g1 : TG} {gr : TGs} {as bs : List (Nat × D)} (h1 : GDs K g1 d as) (h2 : GTs K gr ds bs) : GTs K (gCons g1 gr) (d :: ds) (as ++ bs) := fun H T σ vs Q s ⟨v, r, e, i1, i2⟩ q => by
  refine ⟨v, r, e, h1 H T σ v _ s i1 fun us hu => h2 H T _ r _ s i2 fun ws hw => ?_⟩
  rw [setV_app as bs us ws σ (by rw [hu.len, List.length_map])]
  exact q (us ++ ws) (by rw [List.map_append]; exact hu.app hw)
theorem gd_tup {gr : TGs} {n : Nat} {as : List (Nat × D)} (h : GTs K gr ds as) (hn : ds.length = n) : GDs K (gTup K n gr) (.tup ds) as := fun H T σ v Q s ⟨a, vs, e, h1, h2⟩ q =>
  ⟨a, vs, e, same_t s h1, by rw [h2.len]; exact hn, h H T σ vs Q s h2 q⟩
theorem gd_tup2 {i j : Nat} {d1 d2 : D} : GDs K (gTup K 2 (gCons (gName i) (gCons (gName j) gNil))) (.tup [d1, d2]) [(i, d1), (j, d2)] := gd_tup (gt_cons gd_name (gt_cons gd_name gt_nil)) rfl
theorem gd_tup3 {i j k : Nat} {d1 d2 d3 : D} : GDs K (gTup K 3 (gCons (gName i) (gCons (gName j) (gCons (gName k) gNil)))) (.tup [d1, d2, d3]) [(i, d1), (j, d2), (k, d3)] := gd_tup (gt_cons gd_name (gt_cons gd_name (gt_cons gd_name gt_nil))) rfl
theorem ws_asgG {as : List (Nat × D)} (hv : EvD K te ρ d) (hg : GDs K g d as) (h : P.nx (setD ρ as)) : Ws K E (tAsg te g) ρ P := fun M T0 H T σ Dn e k =>
  hv M T0 H T σ [] _ e fun v H' T' s t' e' iv => hg H' T' σ v _ e'.same iv fun us hu => k.nx _ _ H' T' h s (e'.setAll hu)

/-! ### for -/
theorem ws_for (hs : SrcD K wi ρ l) (Iv : Nat → Rho → Prop) (h0 : Iv 0 ρ)
    (hb : ∀ i d ρ', l[i]? = some d → Iv i ρ' → ∃ as, GDs K g d as ∧ Ws K E tb (setD ρ' as) { P with nx := Iv (i + 1), ct := Iv (i + 1), bk := P.nx })
    (hd : ∀ ρ', Iv l.length ρ' → P.nx ρ') : Ws K E (tFor wi g tb) ρ P := fun M T0 H T σ Dn e k =>
  hs M T0 H T σ [] _ e fun J H1 T1 s1 t1 e1 hj => by
    refine ⟨fun i m σ' T' => m + i = l.length ∧ ∃ H' ρ', Same H1 H' ∧ En K M T0 H' T' σ' ρ' ∧ Iv i ρ', ⟨l.length, by omega, H1, ρ, Same.refl _, e1, h0⟩, ?_⟩
    rintro i m σ' T' ⟨hm, H', ρ', s', e', iv⟩
    obtain ⟨hgo, hstop⟩ := hj i H' T' s' e'.same
    by_cases hi : i < l.length
    · obtain ⟨d, hd1⟩ := get_some hi
      obtain ⟨g1, g2⟩ := hgo d hd1
      refine .inr ⟨g1, fun σ2 T2 => ∃ H2 ρ2, Same H1 H2 ∧ En K M T0 H2 T2 σ2 ρ2 ∧ Iv (i + 1) ρ2, fun σ2 T2 ⟨H2, ρ2, a, b, c⟩ => ⟨m - 1, by omega, by omega, H2, ρ2, a, b, c⟩, fun x T2 hy => ?_⟩
      obtain ⟨H2, gr, ix⟩ := g2 x T2 hy
      obtain ⟨s2, tg, e2⟩ := e'.grow gr
      obtain ⟨as, ga, hw⟩ := hb i d ρ' hd1 iv
      refine ga H2 T2 σ' x _ e2.same ix fun us hu => hw M T0 H2 T2 _ _ (e2.setAll hu) ?_
      have kk := k.up (s1.trans (s'.trans s2))
      exact ⟨fun ρ3 σ3 H3 T3 p s3 e3 => ⟨H3, ρ3, s'.trans (s2.trans s3), e3, p⟩, kk.rt, fun ρ3 σ3 H3 T3 p s3 e3 => kk.nx _ _ _ _ p s3 e3, fun ρ3 σ3 H3 T3 p s3 e3 => ⟨H3, ρ3, s'.trans (s2.trans s3), e3, p⟩, kk.ex⟩
    · have ei : i = l.length := by omega
      subst ei
      exact .inl ⟨hstop (Nat.le_refl _), k.nx _ _ _ _ (hd ρ' iv) (s1.trans s') e'⟩
/-- while, by an invariant with a measure -/
theorem ws_while (Iv : Nat → Rho → Prop) (m0 : Nat) (h0 : Iv m0 ρ)
    (hb : ∀ m ρ', Iv m ρ' → ∃ b, EvT K tt ρ' b ∧ (b = true → Ws K E tb ρ' { P with nx := fun ρ2 => ∃ m', m' < m ∧ Iv m' ρ2, ct := fun ρ2 => ∃ m', m' < m ∧ Iv m' ρ2, bk := P.nx }) ∧ (b = false → P.nx ρ')) : Ws K E (tWhile tt tb) ρ P := fun M T0 H T σ Dn e k => by
  refine ⟨fun m σ' T' => ∃ H' ρ', Same H H' ∧ En K M T0 H' T' σ' ρ' ∧ Iv m ρ', ⟨m0, H, ρ, Same.refl _, e, h0⟩, ?_⟩
  rintro m σ' T' ⟨H', ρ', s', e', iv⟩
  obtain ⟨b, hc, h1, h2⟩ := hb m ρ' iv
  refine hc M T0 H' T' σ' [] _ e' fun H2 T2 s2 t2 e2 => ?_
  cases b with
  | true =>
    refine ⟨fun σ3 T3 => ∃ m', m' < m ∧ ∃ H3 ρ3, Same H H3 ∧ En K M T0 H3 T3 σ3 ρ3 ∧ Iv m' ρ3, fun σ3 T3 ⟨m', hm, z⟩ => ⟨m', hm, z⟩, ?_⟩
    refine h1 rfl M T0 H2 T2 σ' _ e2 ?_
    have kk := k.up (s'.trans s2)
    exact ⟨fun ρ3 σ3 H3 T3 ⟨m', hm, p⟩ s3 e3 => ⟨m', hm, H3, ρ3, s'.trans (s2.trans s3), e3, p⟩, kk.rt, fun ρ3 σ3 H3 T3 p s3 e3 => kk.nx _ _ _ _ p s3 e3, fun ρ3 σ3 H3 T3 ⟨m', hm, p⟩ s3 e3 => ⟨m', hm, H3, ρ3, s'.trans (s2.trans s3), e3, p⟩, kk.ex⟩
  | false =>
    show Dn.nx σ' T2
    exact k.nx _ _ _ _ (h2 rfl) (s'.trans s2) e2

/-! ### comprehensions -/
def wipeD (ρ : Rho) : List Nat → Rho
  | [] => ρ
  | v :: vs => (wipeD ρ vs).set v .no
def isOw : Option Sl → Bool
  | some (.ow _) => true
  | some (.cl _) => true
  | _ => false
theorem EnR.merge : ∀ {ρ ρ2 : Rho} {σ σ2 : L2.St} {L L2 : Op}, EnR K H ρ σ L → Same H H' → EnR K H' ρ2 σ2 L2 → ρ2.length = ρ.length → (∀ i : Nat, (ρ2[i]? = ρ[i]? ∧ σ2[i]? = σ[i]?) ∨ (isOw ρ[i]? = false ∧ isOw ρ2[i]? = false)) → EnR K H' ρ σ L2
  | [], ρ2, σ, σ2, L, L2, h, s, h2, hl, hp => by
    cases h
    have : ρ2 = [] := List.length_eq_zero_iff.mp hl
    subst this
    cases h2
    exact .nil
  | a :: ρ, [], σ, σ2, L, L2, h, s, h2, hl, hp => by simp at hl
  | a :: ρ, b :: ρ2, [], σ2, L, L2, h, s, h2, hl, hp => by cases h
  | a :: ρ, b :: ρ2, x :: σ, [], L, L2, h, s, h2, hl, hp => by cases h2
  | a :: ρ, b :: ρ2, x :: σ, y :: σ2, L, L2, h, s, h2, hl, hp => by
    have hl' : ρ2.length = ρ.length := by simpa using hl
    have tl : ∀ {L L2 : Op}, EnR K H ρ σ L → EnR K H' ρ2 σ2 L2 → EnR K H' ρ σ L2 := fun h h2 => EnR.merge h s h2 hl' fun i => by simpa using hp (i + 1)
    rcases hp 0 with ⟨e1, e2⟩ | ⟨e1, e2⟩
    · have ea : b = a := Option.some.inj e1
      have ex : y = x := Option.some.inj e2
      subst ea ex
      cases h2 with
      | no h2 => cases h with | no h => exact .no (tl h h2)
      | im i2 h2 => cases h with | im _ h => exact .im i2 (tl h h2)
      | ow i2 h2 => cases h with | ow _ h => exact .ow i2 (tl h h2)
      | cl i2 h2 => cases h with | cl _ h => exact .cl i2 (tl h h2)
    · have t2 : ∃ L3, L2 = L3 ∧ EnR K H' ρ2 σ2 L3 := by
        cases h2 with
        | no h2 => exact ⟨_, rfl, h2⟩
        | im i2 h2 => exact ⟨_, rfl, h2⟩
        | ow i2 h2 => cases e2
        | cl i2 h2 => cases e2
      obtain ⟨L3, rfl, h3⟩ := t2
      cases h with
      | no h => exact .no (tl h h3)
      | im ia h => exact .im (ia.up s) (tl h h3)
      | ow ia h => cases e1
      | cl ia h => cases e1
theorem wipeD_len (ρ : Rho) : ∀ vs, (wipeD ρ vs).length = ρ.length
  | [] => rfl
  | v :: vs => by unfold wipeD; rw [List.length_set, wipeD_len ρ vs]
theorem setD_len : ∀ (as : List (Nat × D)) (ρ : Rho), (setD ρ as).length = ρ.length
  | [], _ => rfl
  | (i, d) :: r, ρ => by unfold setD; rw [setD_len r, List.length_set]
theorem wipeD_out {i : Nat} : ∀ {vs : List Nat}, i ∉ vs → (wipeD ρ vs)[i]? = ρ[i]?
  | [], _ => rfl
  | v :: vs, h => by
    have h1 : v ≠ i := fun e => h (by simp [e])
    unfold wipeD
    rw [List.getElem?_set_ne h1]
    exact wipeD_out fun z => h (List.mem_cons_of_mem _ z)
theorem setD_out {i : Nat} : ∀ {as : List (Nat × D)} {ρ : Rho}, i ∉ as.map (·.1) → (setD ρ as)[i]? = ρ[i]?
  | [], _, _ => rfl
  | (j, d) :: r, ρ, h => by
    have h1 : j ≠ i := fun e => h (by simp [e])
    unfold setD
    rw [setD_out (as := r) (fun z => h (by simp [z])), List.getElem?_set_ne h1]
theorem setV_out {i : Nat} : ∀ {as : List (Nat × D)} {us : List V} {σ : L2.St}, i ∉ as.map (·.1) → (setV σ as us)[i]? = σ[i]?
  | [], us, _, _ => by cases us <;> rfl
  | (j, d) :: r, [], _, _ => rfl
  | (j, d) :: r, u :: us, σ, h => by
    have h1 : j ≠ i := fun e => h (by simp [e])
    unfold setV
    rw [setV_out (as := r) (fun z => h (by simp [z])), List.getElem?_set_ne h1]
theorem wipeD_in {i : Nat} : ∀ {vs : List Nat}, i ∈ vs → isOw (wipeD ρ vs)[i]? = false
  | v :: vs, h => by
    unfold wipeD
    by_cases e : v = i
    · subst e
      by_cases hv : v < (wipeD ρ vs).length
      · rw [List.getElem?_set_self hv] <;> rfl
      · rw [List.getElem?_eq_none (by simpa using hv)] <;> rfl
    · rw [List.getElem?_set_ne e]
      exact wipeD_in ((List.mem_cons.mp h).resolve_left fun z => e z.symm)
theorem setD_ow {i : Nat} : ∀ {as : List (Nat × D)} {ρ : Rho}, isOw ρ[i]? = false → isOw (setD ρ as)[i]? = false
  | [], _, h => h
  | (j, d) :: r, ρ, h => by
    unfold setD
    refine setD_ow (as := r) ?_
    by_cases e : j = i
    · subst e
      by_cases hv : j < ρ.length
      · rw [List.getElem?_set_self hv] <;> rfl
      · rw [List.getElem?_eq_none (by simpa using hv)] <;> rfl
    · rw [List.getElem?_set_ne e]
      exact h
theorem wipe_idem (σ : L2.St) : ∀ vs, ∀ i : Nat, (wipe σ vs)[i]? = if i ∈ vs then (σ[i]?).map (fun _ => none) else σ[i]?
  | [], i => by simp [wipe]
  | v :: vs, i => by
    unfold wipe
    by_cases e : v = i
    · subst e
      rw [if_pos List.mem_cons_self, List.getElem?_set_self', wipe_idem σ vs v]
      split <;> (cases σ[v]? <;> rfl)
    · rw [List.getElem?_set_ne e, wipe_idem σ vs i]
      by_cases h : i ∈ vs
      · rw [if_pos h, if_pos (List.mem_cons_of_mem _ h)]
      · rw [if_neg h, if_neg fun z => h ((List.mem_cons.mp z).resolve_left fun q => e q.symm)]
theorem setV_len : ∀ (as : List (Nat × D)) (us : List V) (σ : L2.St), (setV σ as us).length = σ.length
  | [], us, _ => by cases us <;> rfl
  | (i, d) :: r, [], _ => rfl
  | (i, d) :: r, u :: us, σ => by unfold setV; rw [setV_len r, List.length_set]
theorem map_none_eq {a b : Option (Option V)} (h : a.isSome = b.isSome) : a.map (fun _ => (none : Option V)) = b.map fun _ => none := by
  cases a <;> cases b <;> simp_all
theorem wipe_setV {as : List (Nat × D)} {us : List V} {vs : List Nat} (hs : ∀ i ∈ as.map (·.1), i ∈ vs) : wipe (setV (wipe σ vs) as us) vs = wipe σ vs := by
  refine List.ext_getElem? fun i => ?_
  rw [wipe_idem, wipe_idem]
  by_cases h : i ∈ vs
  · rw [if_pos h, if_pos h]
    refine map_none_eq ?_
    have l1 : (setV (wipe σ vs) as us).length = σ.length := by rw [setV_len, wipe_length]
    by_cases hi : i < σ.length
    · rw [List.getElem?_eq_getElem (by omega), List.getElem?_eq_getElem hi] <;> rfl
    · rw [List.getElem?_eq_none (by omega), List.getElem?_eq_none (by omega)]
  · rw [if_neg h, if_neg h, setV_out (fun z => h (hs i z)), wipe_idem, if_neg h]
theorem EnX.wipe {vs : List Nat} (hv : ∀ i ∈ vs, isOw ρ[i]? = false) (h : EnX K M T0 H T σ ρ X) : EnX K M T0 H T (wipe σ vs) (wipeD ρ vs) X := by
  induction vs with
  | nil => exact h
  | cons v vs ih => exact (ih fun i hi => hv i (List.mem_cons_of_mem _ hi)).drop
theorem EnX.unwipe {vs : List Nat} {as : List (Nat × D)} {us : List V} {M' : Op} (hv : ∀ i ∈ vs, isOw ρ[i]? = false) (ha : ∀ i ∈ as.map (·.1), i ∈ vs) (h0 : EnX K M T0 H T σ ρ X) (s : Same H H') {X' : Op} (h : EnX K M T0 H' T' (setV (L2.wipe σ vs) as us) (setD (wipeD ρ vs) as) X') : EnX K M T0 H' T' σ ρ X' := by
  obtain ⟨L, r, q, f⟩ := h0.ex
  obtain ⟨L2, r2, q2, f2⟩ := h.ex
  refine ⟨⟨L2, r.merge s r2 (by rw [setD_len, wipeD_len]) fun i => ?_, q2, f2⟩, h.t0⟩
  by_cases hi : i ∈ vs
  · exact .inr ⟨hv i hi, setD_ow (wipeD_in hi)⟩
  · have hn : i ∉ as.map (·.1) := fun z => hi (ha i z)
    refine .inl ⟨by rw [setD_out hn, wipeD_out hi], by rw [setV_out hn, wipe_idem, if_neg hi]⟩
theorem same_mut {A B : Hp} {p : Addr} {o : HO} (s : Same A B) (h : A p = none) : Same A (upd B p o) := fun b x e => by
  rw [upd_ne (ne_of_none e h)]
  exact s b x e
/-- .. walked by a comprehension: nothing that is open is written meanwhile -/
def JW (K : PySem.W.Frag) (H1 T1 : Hp) (J : It) (l : List D) : Prop := ∀ (i : Nat) (H T : Hp), Same H1 H → Same H T → Same T1 T →
  (∀ d, l[i]? = some d → J.go i T ∧ ∀ x T', J.yld i T x T' → ∃ H', Grow H T H' T' ∧ Is K H' d x) ∧ (l.length ≤ i → J.stop i T)
def SrcW (K : PySem.W.Frag) (wi : TI) (ρ : Rho) (l : List D) : Prop := ∀ (M : Op) (T0 H T : Hp) (σ : L2.St) (X : Op) (R : It → Hp → Prop), EnX K M T0 H T σ ρ X → (∀ J H' T', Same H H' → Same T T' → EnX K M T0 H' T' σ ρ X → JW K H' T' J l → R J T') → wi σ T R
theorem SrcD.w (h : SrcD K wi ρ l) : SrcW K wi ρ l := fun M T0 H T σ X R e q => h M T0 H T σ X R e fun J H' T' s t e' hj => q J H' T' s t e' fun i H2 T2 a b _ => hj i H2 T2 a b
/-- an open list -/
theorem src_own (e : ρ[i]? = some (.ow l)) : SrcW K (iList K (tVar i)) ρ l := fun M T0 H T σ X R en q => by
  obtain ⟨p, vs, h1, h2, h4, _⟩ := en.own e
  refine ⟨.ref p, h1, p, rfl, ⟨vs, .inl (.inl h2)⟩, q _ H T (Same.refl _) (Same.refl _) en fun k H2 T2 sa sb st => ⟨fun d hd => ?_, fun hl => ⟨vs, .inl (.inl (st _ _ h2)), by rw [h4.len]; exact hl⟩⟩⟩
  obtain ⟨v, g1, g2⟩ := h4.get hd
  have hq : SqL K T2 p vs := .inl (.inl (st _ _ h2))
  refine ⟨⟨vs, v, hq, g1⟩, fun x T' ⟨e1, e2⟩ => ⟨H2, .inl ⟨rfl, e1⟩, ?_⟩⟩
  have := e2 vs hq
  rw [g1] at this
  cases this
  exact g2.up sa
theorem evo_lcW {α : Type} {xs : List α} {enc : α → D} {vs : List Nat} (f : α → Bool) (e : α → D) (hs : SrcW K wi ρ (xs.map enc)) (hv : ∀ i ∈ vs, isOw ρ[i]? = false)
    (ht : ∀ d ∈ xs, ∃ as, GDs K g (enc d) as ∧ (∀ i ∈ as.map (·.1), i ∈ vs) ∧ EvT K tt (setD (wipeD ρ vs) as) (f d) ∧ (f d = true → EvD K te (setD (wipeD ρ vs) as) (e d))) (hz : xs.length ≤ 100000) :
    EvO K (tLc wi g tt te vs) ρ ((xs.filter f).map e) := fun M T0 H T σ X Q en q =>
  hs M T0 H T σ X _ en fun J H1 T1 s1 t1 e1 hj D hD => by
    refine ⟨fun i m T' => m + i = xs.length ∧ Same T1 T' ∧ ∃ H' us, Same H1 H' ∧ EnX K M T0 H' T' σ ρ ((D, .lst us) :: X) ∧ IsL K H' (((xs.take i).filter f).map e) us, ⟨xs.length, by omega, same_new hD, H1, [], Same.refl _, e1.opened hD, rfl⟩, ?_⟩
    rintro i m T' ⟨hm, tt1, H', us, s', e', iu⟩
    obtain ⟨hgo, hstop⟩ := hj i H' T' s' e'.same tt1
    by_cases hi : i < xs.length
    · obtain ⟨d, hd1⟩ := get_some hi
      obtain ⟨g1, g2⟩ := hgo (enc d) (by rw [List.getElem?_map, hd1]; rfl)
      refine .inr ⟨g1, fun T2 => Same T1 T2 ∧ ∃ H2 ws, Same H1 H2 ∧ EnX K M T0 H2 T2 σ ρ ((D, .lst ws) :: X) ∧ IsL K H2 (((xs.take (i + 1)).filter f).map e) ws, fun T2 ⟨z, H2, ws, a, b, c⟩ => ⟨m - 1, by omega, by omega, z, H2, ws, a, b, c⟩, fun x T2 hy => ?_⟩
      obtain ⟨H2, gr, ix⟩ := g2 x T2 hy
      obtain ⟨s2, tg, e2⟩ := e'.grow gr
      obtain ⟨as, ga, hsub, hT, hE⟩ := ht d (List.mem_of_getElem? hd1)
      have e3 := e2.wipe hv
      refine ga H2 T2 _ x _ e3.same ix fun ws hw => ⟨wipe_setV hsub, ?_⟩
      have e4 := e3.setAll hw
      have tk : xs.take (i + 1) = xs.take i ++ [d] := by
        rw [List.take_add_one, hd1]
        rfl
      refine hT M T0 H2 T2 _ _ _ e4 fun H5 T5 s5 t5 e5 => ?_
      cases hf : f d with
      | true =>
        refine hE hf M T0 H5 T5 _ _ _ e5 fun v H6 T6 s6 t6 e6 iv => ?_
        have e7 := EnX.unwipe hv hsub e2 (s5.trans s6) (M' := M) e6
        refine ⟨us, e7.at_, ?_, same_mut (tt1.trans (tg.trans (t5.trans t6))) hD, H6, us ++ [v], s'.trans (s2.trans (s5.trans s6)), e7.write, ?_⟩
        · rw [iu.len, List.length_map]
          have h1 : ((xs.take i).filter f).length ≤ (xs.take i).length := List.length_filter_le _ _
          rw [List.length_take] at h1
          have h2 : (100000 : Nat) < sizeLine := by decide
          omega
        · rw [tk, List.filter_append, List.map_append, List.filter_cons, if_pos hf]
          exact (iu.up (s2.trans (s5.trans s6))).app (.one iv)
      | false =>
        show Same T1 T5 ∧ ∃ H2 ws, _
        have e7 := EnX.unwipe hv hsub e2 s5 (M' := M) e5
        refine ⟨tt1.trans (tg.trans t5), H5, us, s'.trans (s2.trans s5), e7, ?_⟩
        rw [tk, List.filter_append, List.map_append, List.filter_cons, if_neg (by rw [hf]; decide)]
        show IsL K H5 (_ ++ []) us
        rw [List.append_nil]
        exact iu.up (s2.trans s5)
    · have ei : i = xs.length := by omega
      subst ei
      rw [List.take_length] at iu
      exact .inl ⟨hstop (by rw [List.length_map]; exact Nat.le_refl _), q D us H' T' (s1.trans s') (t1.trans tt1) e' iu⟩
theorem evo_lc {α : Type} {xs : List α} {enc : α → D} {vs : List Nat} (f : α → Bool) (e : α → D) (hs : SrcD K wi ρ (xs.map enc)) (hv : ∀ i ∈ vs, isOw ρ[i]? = false)
    (ht : ∀ d ∈ xs, ∃ as, GDs K g (enc d) as ∧ (∀ i ∈ as.map (·.1), i ∈ vs) ∧ EvT K tt (setD (wipeD ρ vs) as) (f d) ∧ (f d = true → EvD K te (setD (wipeD ρ vs) as) (e d))) (hz : xs.length ≤ 100000) :
    EvO K (tLc wi g tt te vs) ρ ((xs.filter f).map e) := evo_lcW f e hs.w hv ht hz
theorem evo_mapW {α : Type} {xs : List α} {enc : α → D} {vs : List Nat} (e : α → D) (hs : SrcW K wi ρ (xs.map enc)) (hv : ∀ i ∈ vs, isOw ρ[i]? = false)
    (ht : ∀ d ∈ xs, ∃ as, GDs K g (enc d) as ∧ (∀ i ∈ as.map (·.1), i ∈ vs) ∧ EvD K te (setD (wipeD ρ vs) as) (e d)) (hz : xs.length ≤ 100000) :
    EvO K (tLc wi g tYes te vs) ρ (xs.map e) := by
  have h := evo_lcW (tt := tYes) (te := te) (fun _ => true) e hs hv (fun d hd => by
    obtain ⟨as, a, b, c⟩ := ht d hd
    exact ⟨as, a, b, et_yes, fun _ => c⟩) hz
  have e1 : xs.filter (fun _ => true) = xs := by simp
  rw [e1] at h
  exact h
/-- without a test -/
theorem evo_map {α : Type} {xs : List α} {enc : α → D} {vs : List Nat} (e : α → D) (hs : SrcD K wi ρ (xs.map enc)) (hv : ∀ i ∈ vs, isOw ρ[i]? = false)
    (ht : ∀ d ∈ xs, ∃ as, GDs K g (enc d) as ∧ (∀ i ∈ as.map (·.1), i ∈ vs) ∧ EvD K te (setD (wipeD ρ vs) as) (e d)) (hz : xs.length ≤ 100000) :
    EvO K (tLc wi g tYes te vs) ρ (xs.map e) := by
  have h := evo_lc (tt := tYes) (te := te) (fun _ => true) e hs hv (fun d hd => by
    obtain ⟨as, a, b, c⟩ := ht d hd
    exact ⟨as, a, b, et_yes, fun _ => c⟩) hz
  have e1 : xs.filter (fun _ => true) = xs := by simp
  rw [e1] at h
  exact h

end

section
variable {K : PySem.W.Frag} {ρ : Rho} {te : TE} {tt : TT} {l : List D} {g : TG} {wi : TI}
/-- a comprehension of closed elements -/
theorem ec_lcW {α : Type} {xs : List α} {enc : α → D} {vs : List Nat} (f : α → Bool) (e : α → D) (hs : SrcW K wi ρ (xs.map enc)) (hv : ∀ i ∈ vs, isOw ρ[i]? = false)
    (ht : ∀ d ∈ xs, ∃ as, GDs K g (enc d) as ∧ (∀ i ∈ as.map (·.1), i ∈ vs) ∧ EvT K tt (setD (wipeD ρ vs) as) (f d) ∧ (f d = true → EvC K te (setD (wipeD ρ vs) as) (e d))) (hz : xs.length ≤ 100000) :
    EvC K (tLc wi g tt te vs) ρ (.lst ((xs.filter f).map e)) := fun M T0 H T σ X Q en q =>
  hs M T0 H T σ X _ en fun J H1 T1 s1 t1 e1 hj D hD => by
    refine ⟨fun i m T' => m + i = xs.length ∧ Same T1 T' ∧ ∃ H' us Lc, Same H1 H' ∧ EnX K M T0 H' T' σ ρ ((D, .lst us) :: (Lc ++ X)) ∧ IsCL K H' (((xs.take i).filter f).map e) us Lc, ⟨xs.length, by omega, same_new hD, H1, [], [], Same.refl _, e1.opened hD, rfl, rfl⟩, ?_⟩
    rintro i m T' ⟨hm, tt1, H', us, Lc, s', e', iu⟩
    obtain ⟨hgo, hstop⟩ := hj i H' T' s' e'.same tt1
    by_cases hi : i < xs.length
    · obtain ⟨d, hd1⟩ := get_some hi
      obtain ⟨g1, g2⟩ := hgo (enc d) (by rw [List.getElem?_map, hd1]; rfl)
      refine .inr ⟨g1, fun T2 => Same T1 T2 ∧ ∃ H2 ws Lc, Same H1 H2 ∧ EnX K M T0 H2 T2 σ ρ ((D, .lst ws) :: (Lc ++ X)) ∧ IsCL K H2 (((xs.take (i + 1)).filter f).map e) ws Lc, fun T2 ⟨z, H2, ws, Lc, a, b, c⟩ => ⟨m - 1, by omega, by omega, z, H2, ws, Lc, a, b, c⟩, fun x T2 hy => ?_⟩
      obtain ⟨H2, gr, ix⟩ := g2 x T2 hy
      obtain ⟨s2, tg, e2⟩ := e'.grow gr
      obtain ⟨as, ga, hsub, hT, hE⟩ := ht d (List.mem_of_getElem? hd1)
      have e3 := e2.wipe hv
      refine ga H2 T2 _ x _ e3.same ix fun ws hw => ⟨wipe_setV hsub, ?_⟩
      have e4 := e3.setAll hw
      have tk : xs.take (i + 1) = xs.take i ++ [d] := by
        rw [List.take_add_one, hd1]
        rfl
      refine hT M T0 H2 T2 _ _ _ e4 fun H5 T5 s5 t5 e5 => ?_
      cases hf : f d with
      | true =>
        refine hE hf M T0 H5 T5 _ _ _ e5 fun v L' H6 T6 s6 t6 e6 iv => ?_
        have e7 := EnX.unwipe hv hsub e2 (s5.trans s6) (M' := M) e6
        have pm : List.Perm (L' ++ ((D, HO.lst us) :: (Lc ++ X))) ((D, HO.lst us) :: ((Lc ++ L') ++ X)) := by
          refine List.perm_middle.trans (List.Perm.cons _ ?_)
          rw [← List.append_assoc]
          exact List.perm_append_comm.append_right _
        have e8 := e7.perm pm
        refine ⟨us, e8.at_, ?_, same_mut (tt1.trans (tg.trans (t5.trans t6))) hD, H6, us ++ [v], Lc ++ L', s'.trans (s2.trans (s5.trans s6)), e8.write, ?_⟩
        · rw [iu.len, List.length_map]
          have h1 : ((xs.take i).filter f).length ≤ (xs.take i).length := List.length_filter_le _ _
          rw [List.length_take] at h1
          have h2 : (100000 : Nat) < sizeLine := by decide
          omega
        · rw [tk, List.filter_append, List.map_append, List.filter_cons, if_pos hf]
          exact (iu.up (s2.trans (s5.trans s6))).app (.one iv)
      | false =>
        show Same T1 T5 ∧ ∃ H2 ws Lc, _
        have e7 := EnX.unwipe hv hsub e2 s5 (M' := M) e5
        refine ⟨tt1.trans (tg.trans t5), H5, us, Lc, s'.trans (s2.trans s5), e7, ?_⟩
        rw [tk, List.filter_append, List.map_append, List.filter_cons, if_neg (by rw [hf]; decide)]
        show IsCL K H5 (_ ++ []) us Lc
        rw [List.append_nil]
        exact iu.up (s2.trans s5)
    · have ei : i = xs.length := by omega
      subst ei
      rw [List.take_length] at iu
      exact .inl ⟨hstop (by rw [List.length_map]; exact Nat.le_refl _), q (.ref D) ((D, .lst us) :: Lc) H' T' (s1.trans s') (t1.trans tt1) e' ⟨D, us, Lc, rfl, rfl, iu⟩⟩
theorem ec_lc {α : Type} {xs : List α} {enc : α → D} {vs : List Nat} (f : α → Bool) (e : α → D) (hs : SrcD K wi ρ (xs.map enc)) (hv : ∀ i ∈ vs, isOw ρ[i]? = false)
    (ht : ∀ d ∈ xs, ∃ as, GDs K g (enc d) as ∧ (∀ i ∈ as.map (·.1), i ∈ vs) ∧ EvT K tt (setD (wipeD ρ vs) as) (f d) ∧ (f d = true → EvC K te (setD (wipeD ρ vs) as) (e d))) (hz : xs.length ≤ 100000) :
    EvC K (tLc wi g tt te vs) ρ (.lst ((xs.filter f).map e)) := ec_lcW f e hs.w hv ht hz
theorem ec_map {α : Type} {xs : List α} {enc : α → D} {vs : List Nat} (e : α → D) (hs : SrcD K wi ρ (xs.map enc)) (hv : ∀ i ∈ vs, isOw ρ[i]? = false)
    (ht : ∀ d ∈ xs, ∃ as, GDs K g (enc d) as ∧ (∀ i ∈ as.map (·.1), i ∈ vs) ∧ EvC K te (setD (wipeD ρ vs) as) (e d)) (hz : xs.length ≤ 100000) :
    EvC K (tLc wi g tYes te vs) ρ (.lst (xs.map e)) := by
  have h := ec_lc (tt := tYes) (te := te) (fun _ => true) e hs hv (fun d hd => by
    obtain ⟨as, a, b, c⟩ := ht d hd
    exact ⟨as, a, b, et_yes, fun _ => c⟩) hz
  have e1 : xs.filter (fun _ => true) = xs := by simp
  rw [e1] at h
  exact h

end

/-! ### a def -/
/-- a def's wish about what it raises -/
abbrev upX (E : XK) : L2.WX := fun c od _ T => E c od T
section
variable {K : PySem.W.Frag} {P : PrD} {vs : List V} {T : Hp} {Q : VK} {E : XK} {t : TS} {N : List Str}
theorem read_fn (h : spD K P vs T Q E) (hw : ∀ ds R Z, P ds R Z → Ws K (upX E) t (ds.map .im ++ List.replicate (N.length - ds.length) .no) { nx := fun _ => R (.im .non), rt := R, ex := fun _ => Z }) :
    t { nx := fun _ H' => Q .non H', rt := Q } (L2.start N vs) T := by
  obtain ⟨M, H, ds, R, Z, o, hd, p, k1, k2⟩ := h
  have r := EnR.start hd (N.length - ds.length)
  have e : L2.start N vs = vs.map some ++ List.replicate (N.length - ds.length) none := by unfold L2.start; rw [hd.len]
  rw [e]
  refine hw ds R Z p M T H T _ _ ⟨⟨[], r, o, fun _ h => (nomatch h)⟩, Same.refl _⟩ ⟨fun ρ' σ' H' T' q s e' => k1 (.im .non) .non H' T' q s e'.t0 ⟨rfl, e'.frame⟩, fun s v H' T' q s' t' hr => k1 s v H' T' q s' t' hr, fun _ _ _ _ q => q.elim, fun _ _ _ _ q => q.elim, fun ρ' σ' c ns es od H' T' q s' e' hx => k2 c ns es od H' T' q s' e'.t0 e'.frame hx⟩
theorem len_fn {n : Nat} (hl : ∀ ds R Z, P ds R Z → ds.length = n) (h : spD K P vs T Q E) : vs.length = n := by
  obtain ⟨M, H, ds, R, Z, o, hd, p, _⟩ := h
  rw [hd.len]
  exact hl ds R Z p
end
end FS
set_option Elab.async false
set_option linter.all false
set_option maxRecDepth 100000
set_option maxHeartbeats 4000000
namespace FS
open PySem PySem.Spec PyProof.Rows L2

/-! ### operators, by what comes in -/
section
variable {X : Cx}
abbrev rStrCat : R2 := fun x y H Q => ∃ i j, x = .str i ∧ y = .str j ∧ i.length + j.length ≤ sizeLine ∧ Q (.str (i ++ j)) H
def rAddA (K : PySem.W.Frag) : R2 := fun x y H Q => rI0 (fun i j => .int (i + j)) x y H Q ∨ rCat x y H Q ∨ rStrCat x y H Q ∨ rCatT K x y H Q
theorem opAdd : OpR X (binaryOp .Add) (rAddA X.K) := op_add.or (op_cat.or (OpR.or op_add_str op_catT))
def rMulA : R2 := fun x y H Q => rI CMul (fun i j => .int (i * j)) x y H Q ∨ rI CMulW (fun i j => .int (i * j)) x y H Q ∨ rRep x y H Q
theorem opMul : OpR X (binaryOp .Mult) rMulA := op_mul.or (op_mulW.or op_rep)
def rSubA : R2 := rI0 fun i j => .int (i - j)
theorem opSub : OpR X (binaryOp .Sub) rSubA := op_sub
def rDivA : R2 := rI CDivW fun i j => .int (i / j)
theorem opDiv : OpR X (binaryOp .FloorDiv) rDivA := op_fdivW
def rModA : R2 := rI (fun _ j => 0 < j) fun i j => .int (i % j)
theorem opMod : OpR X (binaryOp .Mod) rModA := op_mod
def rPowA : R2 := rI CPow fun i j => .int (i ^ j.toNat)
theorem opPow : OpR X (binaryOp .Pow) rPowA := op_pow
def rLtA : R2 := rI0 fun i j => .bl (decide (i < j))
def rLeA : R2 := rI0 fun i j => .bl (decide (i ≤ j))
def rGtA : R2 := rI0 fun i j => .bl (decide (j < i))
def rGeA : R2 := rI0 fun i j => .bl (decide (j ≤ i))
theorem opLt : OpR X (compareOp .Lt) rLtA := op_lt
theorem opLe : OpR X (compareOp .LtE) rLeA := op_le
theorem opGt : OpR X (compareOp .Gt) rGtA := op_gt
theorem opGe : OpR X (compareOp .GtE) rGeA := op_ge
def rEqA (K : PySem.W.Frag) : R2 := fun x y H Q => rEq x y H Q ∨ rEqD K x y H Q
def rNeA (K : PySem.W.Frag) : R2 := fun x y H Q => rNe x y H Q ∨ rNeD K x y H Q
theorem opEq (hu : X.A.units + 64 < cLine) : OpR X (compareOp .Eq) (rEqA X.K) := op_eq.or (op_eqD hu)
theorem opNe (hu : X.A.units + 64 < cLine) : OpR X (compareOp .NotEq) (rNeA X.K) := op_ne.or (op_neD hu)
def rIsN : R2 := fun x y H Q => y = .non ∧ Q (.bl (decide (x = .non))) H
def rNotN : R2 := fun x y H Q => y = .non ∧ Q (.bl (!decide (x = .non))) H
theorem opIsN : OpR X (compareOp .Is) rIsN := op_isN
theorem opNotN : OpR X (compareOp .IsNot) rNotN := op_notN
def rNegA : V → Hp → VK → Prop := rU fun i => .int (-i)
theorem unNeg : UnR X (unaryOp .USub) rNegA := un_neg
def rLenS : List V → Hp → VK → Prop := fun xs H Q => ∃ z, xs = [.str z] ∧ z.length ≤ sizeLine ∧ Q (.int z.length) H
def rLenA (K : PySem.W.Frag) : List V → Hp → VK → Prop := fun xs H Q => rLen K xs H Q ∨ rLenS xs H Q
theorem cLen : CallR X (.builtin "len") (rLenA X.K) := call_len_seq.or call_len_str
def rIntA : List V → Hp → VK → Prop := fun xs H Q => (∃ i, xs = [.int i] ∧ Q (.int i) H) ∨ ∃ k, xs = [.bl k] ∧ Q (.int (if k then 1 else 0)) H
theorem cInt : CallR X (.type "int") rIntA := call_int1
def rAbsA : List V → Hp → VK → Prop := fun xs H Q => ∃ i, xs = [.int i] ∧ Q (.int (if i < 0 then -i else i)) H
theorem cAbs : CallR X (.builtin "abs") rAbsA := call_abs
def rListA (K : PySem.W.Frag) : List V → Hp → VK → Prop := fun xs H Q => ∃ p ys, xs = [.ref p] ∧ (SqL K H p ys ∨ SqT K H p ys) ∧ ∀ l, H l = none → Q (.ref l) (upd H l (.lst ys))
theorem cList : CallR X (.type "list") (rListA X.K) := call_list_of
/-- math.lcm, of numbers of at most 13500 bits -/
def CLcm (a b : Int) : Prop := 0 < a ∧ 0 < b ∧ a < 2 ^ 13499 ∧ b < 2 ^ 13499
def rLcmA : List V → Hp → VK → Prop := fun vs H Q => ∃ a b : Int, vs = [.int a, .int b] ∧ CLcm a b ∧ Q (.int ((Nat.lcm a.natAbs b.natAbs : Nat) : Int)) H
theorem lcm_small {a b : Nat} (ha : a < 2 ^ 13499) (hb : b < 2 ^ 13499) : (Nat.lcm a b).log2 < bitsLine := by
  have h1 : Nat.lcm a b ≤ a * b := by
    unfold Nat.lcm
    exact Nat.div_le_self _ _
  have h2 : a * b < 2 ^ 26998 := by
    have : a * b < 2 ^ 13499 * 2 ^ 13499 := Nat.mul_lt_mul'' ha hb
    rw [← Nat.pow_add] at this
    exact this
  have h3 : bitsLine = 134217728 := by decide
  by_cases h0 : Nat.lcm a b = 0
  · rw [h0, Nat.log2_zero, h3]
    decide
  · have := (Nat.log2_lt h0).mpr (Nat.lt_of_le_of_lt h1 h2)
    rw [h3]
    omega
theorem log_small {a : Nat} (ha : a < 2 ^ 13499) : ¬ a.log2 / 30 + 1 > 450 := by
  by_cases h0 : a = 0
  · subst h0
    rw [Nat.log2_zero]
    decide
  · have := (Nat.log2_lt h0).mpr ha
    omega
theorem cLcm : CallR X (.builtin "math.lcm") rLcmA := by
  intro pins s σ H vs us Q I r h
  obtain ⟨a, b, rfl, ⟨h1, h2, h3, h4⟩, q⟩ := h
  obtain ⟨t, u, rfl⟩ := Vals.int2 r
  have ha : a.natAbs < 2 ^ 13499 := by
    have : (a.natAbs : Int) < ((2 ^ 13499 : Nat) : Int) := by
      rw [Int.natAbs_of_nonneg (by omega)]
      exact_mod_cast h3
    exact_mod_cast this
  have hb : b.natAbs < 2 ^ 13499 := by
    have : (b.natAbs : Int) < ((2 ^ 13499 : Nat) : Int) := by
      rw [Int.natAbs_of_nonneg (by omega)]
      exact_mod_cast h4
    exact_mod_cast this
  have p1 : 1 ≤ a.natAbs := by omega
  have p2 : 1 ≤ b.natAbs := by omega
  have e1 : Nat.lcm 1 a.natAbs = a.natAbs := Nat.lcm_one_left _
  have m1 : max 1 a.natAbs = a.natAbs := Nat.max_eq_right p1
  have g := PySem.W.mg_run_lcm a t b u (by rw [m1]; exact log_small ha)
    (log_small (by rcases Nat.le_total a.natAbs b.natAbs with z | z; · rw [Nat.max_eq_right z]; exact hb
                   · rw [Nat.max_eq_left z]; exact ha))
    (by rw [e1, Int.natAbs_natCast]; exact lcm_small ha hb)
  rw [e1] at g
  exact PySem.call_function_meets PySem.W.MGF.kind_lcm PySem.W.MGF.plain_lcm PySem.W.MGF.entry_lcm (PySem.W.MGF.args_lcm _ _) g.meets ⟨.int _, H, I.tok _, ⟨_, rfl⟩, q⟩
end

section
variable {K : PySem.W.Frag} {ρ : Rho} {x y z d : D} {l l' : List D}
theorem rv_add {i j : Int} : RvD K (rAddA K) (.int i) (.int j) (.int (i + j)) := fun H T vx vy Q s h1 h2 q => .inl (rv_I0 (g := fun i j => V.int (i + j)) (z := .int (i + j)) (fun _ => rfl) H T vx vy Q s h1 h2 q)
theorem rvo_add (hz : l.length + l'.length ≤ 100000) : RvO K (rAddA K) (.lst l) (.lst l') (l ++ l') := fun H T vx vy Q s h1 h2 q => .inr (.inl (rvo_cat hz H T vx vy Q s h1 h2 q))
theorem rv_addS {i j : Str} (hz : i.length + j.length ≤ 10000000) : RvD K (rAddA K) (.str i) (.str j) (.str (i ++ j)) := fun H T vx vy Q s h1 h2 q =>
  .inr (.inr (.inl ⟨i, j, h1, h2, Nat.le_trans hz (by decide), q _ rfl⟩))
theorem rv_sub {i j : Int} : RvD K rSubA (.int i) (.int j) (.int (i - j)) := rv_I0 fun _ => rfl
theorem rv_mul {i j : Int} (h : CMul i j) : RvD K rMulA (.int i) (.int j) (.int (i * j)) := fun H T vx vy Q s h1 h2 q => .inl (rv_I (g := fun i j => V.int (i * j)) (z := .int (i * j)) h (fun _ => rfl) H T vx vy Q s h1 h2 q)
theorem rv_mulW {i j : Int} (h : CMulW i j) : RvD K rMulA (.int i) (.int j) (.int (i * j)) := fun H T vx vy Q s h1 h2 q => .inr (.inl (rv_I (g := fun i j => V.int (i * j)) (z := .int (i * j)) h (fun _ => rfl) H T vx vy Q s h1 h2 q))
theorem rvo_mul {k : Int} (h1 : -(2 ^ 63) ≤ k ∧ k < 2 ^ 63) (hz : l.length * k.toNat ≤ 100000) : RvO K rMulA (.lst l) (.int k) (List.replicate k.toNat l).flatten := fun H T vx vy Q s g1 g2 q => .inr (.inr (rvo_rep h1 hz H T vx vy Q s g1 g2 q))
theorem rv_div {i j : Int} (h : CDivW i j) : RvD K rDivA (.int i) (.int j) (.int (i / j)) := rv_I h fun _ => rfl
theorem rv_mod {i j : Int} (h : 0 < j) : RvD K rModA (.int i) (.int j) (.int (i % j)) := rv_I h fun _ => rfl
theorem rv_pow {i j z : Int} (h : CPow i j) (e : i ^ j.toNat = z) : RvD K rPowA (.int i) (.int j) (.int z) := e ▸ rv_I h fun _ => rfl
theorem rv_lt {i j : Int} : RvD K rLtA (.int i) (.int j) (.bl (decide (i < j))) := rv_I0 fun _ => rfl
theorem rv_le {i j : Int} : RvD K rLeA (.int i) (.int j) (.bl (decide (i ≤ j))) := rv_I0 fun _ => rfl
theorem rv_gt {i j : Int} : RvD K rGtA (.int i) (.int j) (.bl (decide (j < i))) := rv_I0 fun _ => rfl
theorem rv_ge {i j : Int} : RvD K rGeA (.int i) (.int j) (.bl (decide (j ≤ i))) := rv_I0 fun _ => rfl
theorem rv_eq {i j : Int} : RvD K (rEqA K) (.int i) (.int j) (.bl (decide (i = j))) := fun H T vx vy Q s h1 h2 q => .inl (rv_eqI H T vx vy Q s h1 h2 q)
theorem rv_ne {i j : Int} : RvD K (rNeA K) (.int i) (.int j) (.bl (!decide (i = j))) := fun H T vx vy Q s h1 h2 q => .inl (rv_neI H T vx vy Q s h1 h2 q)
theorem rv_eqStr {i j : Str} : RvD K (rEqA K) (.str i) (.str j) (.bl (decide (i = j))) := fun H T vx vy Q s h1 h2 q => .inl (rv_eqS H T vx vy Q s h1 h2 q)
theorem rv_neStr {i j : Str} : RvD K (rNeA K) (.str i) (.str j) (.bl (!decide (i = j))) := fun H T vx vy Q s h1 h2 q => .inl (rv_neS H T vx vy Q s h1 h2 q)
theorem rv_is : RvD K rIsN x .non (.bl (isNon x)) := rv_isN
theorem rv_isnot : RvD K rNotN x .non (.bl (!isNon x)) := rv_notN
theorem ru_neg {i : Int} : RuD K rNegA (.int i) (.int (-i)) := ru_I fun _ => rfl
theorem rc_len : RcD K (rLenA K) [.lst l] (.int (l.length : Int)) := fun H T vs Q s h q => .inl (rc_lenL H T vs Q s h q)
theorem rc_lent : RcD K (rLenA K) [.tup l] (.int (l.length : Int)) := fun H T vs Q s h q => .inl (rc_lenT H T vs Q s h q)
theorem rc_lenc {ns : List Int} : RcD K (rLenA K) [.scr ns] (.int (ns.length : Int)) := fun H T vs Q s h q => .inl (rc_lenC H T vs Q s h q)
theorem rc_lens {t : Str} (h : t.length ≤ 10000000) : RcD K (rLenA K) [.str t] (.int (t.length : Int)) := fun H T vs Q s i q => by
  obtain ⟨v, rfl, hv⟩ := isL_one i
  exact .inr ⟨t, by rw [show v = V.str t from hv], Nat.le_trans h (by decide), q _ rfl⟩
theorem ev_lenOw {i : Nat} (e : ρ[i]? = some (.ow l)) : EvD K (tCB (rLenA K) (tCons (tVar i) tNil)) ρ (.int (l.length : Int)) := fun M T0 H T σ X Q h q => by
  obtain ⟨p, vs, h1, h2, h4, _⟩ := h.own e
  exact ⟨.ref p, h1, .inl ⟨p, vs, rfl, .inl (.inl (.inl h2)), q _ H T (Same.refl _) (Same.refl _) h (by rw [h4.len]; exact (rfl : V.int _ = V.int _))⟩⟩
theorem rc_toint {i : Int} : RcD K rIntA [.int i] (.int i) := rc_int
theorem rc_tointB {b : Bool} : RcD K rIntA [.bl b] (.int (if b then 1 else 0)) := rc_intB
theorem rc_absv {i : Int} : RcD K rAbsA [.int i] (.int (i.natAbs : Int)) := rc_abs
theorem rc_lcm {a b : Int} (h : CLcm a b) : RcD K rLcmA [.int a, .int b] (.int ((Nat.lcm a.natAbs b.natAbs : Nat) : Int)) := fun H T vs Q s i q => by
  obtain ⟨v, w, rfl, hv, hw⟩ := isL_two i
  exact ⟨a, b, by rw [show v = V.int a from hv, show w = V.int b from hw], h, q _ rfl⟩
theorem rco_list : RcO K (rListA K) [.lst l] l := rc_list
theorem rco_listT : RcO K (rListA K) [.tup l] l := rc_listT
end

/-! ### a def that stands -/
structure FnG (P : Program) (w : World) (K : PySem.W.Frag) (mg : Str → Option Value) (base : Heap) (CX : CXT) (k : Nat) (x : Str) (ps : List Str) (sp : Sp) : Prop where
  ex : ∃ f fd, FnOk P w K mg base CX k f fd ps sp ∧ mg x = some (.ref f) ∧ PySem.W.keepIn K (.ref f) = true ∧ Binds K fd ps []
section
variable {X : Cx} {CX : CXT} {k : Nat} {sp : Sp} {E : XK} {x : Str} {e : Expr} {es : List Expr} {t : TA} {p pos : Pos} {ps : List Str}
theorem pe_g (G : FnG X.prog X.w X.K X.mg X.base CX k x ps sp) (hr : Room k X.A) (hx : Passes CX X E) (ha : PA X (e :: es) t) (hg : Gl X x := by rfl) (hdb : (x == ("__debug__" : Str)) = false := by decide)
    (he : starEach (e :: es) X.env = (false, eval e X.env) :: starEach es X.env := by rfl) (hpl : (backTo pos (starEach es X.env)).any (·.1) = false := by rfl) : PE X (.Call (.Name x p) (e :: es) [] pos) (tCall sp [] E t) := by
  obtain ⟨f, fd, F, hm, hk, hb⟩ := G.ex
  exact pe_call F hr hg hm hk hb .nil hx ha hdb he hpl
end
section
variable {P : Program} {w : World} {K : PySem.W.Frag} {mg : Str → Option Value} {base : Heap} {x qual : Str} {st : Stmt} {f : Addr} {fd : FuncData} {N ps : List Str} {k : Nat} {Pr : PrD}
/-- a def of the text, its facts behind the top -/
structure Df (K : PySem.W.Frag) (mg : Str → Option Value) (x : Str) (st : Stmt) (ps : List Str) : Prop where
  ex : ∃ f fd, Fun K x x st f fd ∧ mg x = some (.ref f) ∧ Binds K fd ps []
theorem Df.ok (F : Df K mg x st ps) (S : FnScope N ps (defScope st)) (len : ∀ ds R Z, Pr ds R Z → ds.length = ps.length)
    (hbody : ∀ (f : Addr) (cdv : Value) (A : Around) (outer : List Env) (s : Shared) (H : Hp) (E : XK), Room k (A.deeper (envOfC x (defScope st) s.heap.objs.size f cdv)) →
      ∃ t, PSs (cxOf CX0 P w K mg base N x (defScope st) f cdv A outer s H E).nox (defBody st) t ∧ ∀ ds R Z, Pr ds R Z → Ws K (upX E) t (ds.map .im ++ List.replicate (N.length - ds.length) .no) { nx := fun _ => R (.im .non), rt := R, ex := fun _ => Z }) :
    FnG P w K mg base CX0 (k + 1) x ps (spD K Pr) := by
  obtain ⟨f, fd, F, hm, hb⟩ := F.ex
  refine ⟨f, fd, F.ok S (fun vs H Q E h => len_fn len h) (fun cdv A outer s H vs Q E hr h => ?_), hm, F.kp, hb⟩
  obtain ⟨t, h1, h2⟩ := hbody f cdv A outer s H E hr
  exact ⟨t, h1, read_fn h h2⟩
theorem Df.okX (F : Df K mg x st ps) (S : FnScope N ps (defScope st)) (len : ∀ ds R Z, Pr ds R Z → ds.length = ps.length)
    (hbody : ∀ (f : Addr) (cdv : Value) (A : Around) (outer : List Env) (s : Shared) (H : Hp) (E : XK), Room k (A.deeper (envOfC x (defScope st) s.heap.objs.size f cdv)) →
      ∃ t, PSs (cxOf (L2.CX P w) P w K mg base N x (defScope st) f cdv A outer s H E) (defBody st) t ∧ ∀ ds R Z, Pr ds R Z → Ws K (upX E) t (ds.map .im ++ List.replicate (N.length - ds.length) .no) { nx := fun _ => R (.im .non), rt := R, ex := fun _ => Z }) :
    FnG P w K mg base (L2.CX P w) (k + 1) x ps (spD K Pr) := by
  obtain ⟨f, fd, F, hm, hb⟩ := F.ex
  refine ⟨f, fd, F.okX S (fun vs H Q E h => len_fn len h) (fun cdv A outer s H vs Q E hr h => ?_), hm, F.kp, hb⟩
  obtain ⟨t, h1, h2⟩ := hbody f cdv A outer s H E hr
  exact ⟨t, h1, read_fn h h2⟩
end

/-! ### short words for derivations; the written part is named, so that it may stand under a comprehension's binder -/
section
variable {X : Cx} (K : PySem.W.Frag)
theorem kAdd (hK : X.K = K := by rfl) : OpR X (binaryOp .Add) (rAddA K) := hK ▸ opAdd
theorem kEq (hu : X.A.units + 64 < cLine) (hK : X.K = K := by rfl) : OpR X (compareOp .Eq) (rEqA K) := hK ▸ opEq hu
theorem kNe (hu : X.A.units + 64 < cLine) (hK : X.K = K := by rfl) : OpR X (compareOp .NotEq) (rNeA K) := hK ▸ opNe hu
theorem kLen (hK : X.K = K := by rfl) : CallR X (.builtin "len") (rLenA K) := hK ▸ cLen
theorem kList (hK : X.K = K := by rfl) : CallR X (.type "list") (rListA K) := hK ▸ cList
theorem kIsi (hK : X.K = K := by rfl) : CallR X (.builtin "isinstance") (rIsi K) := hK ▸ call_isi
theorem kIn (hK : X.K = K := by rfl) : OpR X (compareOp .In) (rIn K false) := hK ▸ op_in_seq
theorem kNotIn (hK : X.K = K := by rfl) : OpR X (compareOp .NotIn) (rIn K true) := hK ▸ op_notIn_seq
theorem kIx (hK : X.K = K := by rfl) : IxR X (rIx K) := hK ▸ ix_seq
theorem ix {a b : Expr} {ta tb : TE} {pos : Pos} (ha : PE X a ta) (hb : PE X b tb) (hK : X.K = K := by rfl) (hs : PlainIx b := by exact fun _ _ => rfl) : PE X (.Subscript a b pos) (tOp (rIx K) ta tb) := pe_ix (kIx K hK) ha hb hs
theorem pl {tg l : Expr} {tl : TE} (hl : PE X l tl) (hK : X.K = K := by rfl) : PI X tg l (iList K tl) := hK ▸ pi_list hl
theorem pt {tg l : Expr} {tl : TE} (hl : PE X l tl) (hK : X.K = K := by rfl) : PI X tg l (iTup K tl) := hK ▸ pi_tup hl
theorem gt {es : List Expr} {k : Nat} {pos : Pos} {t : TGs} {n : Nat} (hc : X.calm = true) (h : PGs X es t) (hK : X.K = K := by rfl) (hn : (assignEach es X.env).length = n := by rfl) (hst : (assignEach es X.env).findIdx? (·.1) = none := by rfl) : PG X (.Tuple es k pos) (gTup K n t) := hK ▸ pg_tup hc h hn hst
theorem ml_append {o e : Expr} {to : TE} {ta : TA} {apos cpos : Pos} (ho : PE X o to) (ha : PA X [e] ta) (hK : X.K = K := by rfl) (hbase : attributeBase o "append" X.env (eval o X.env) = eval o X.env := by rfl)
    (hfew : ((backTo cpos (starEach [e] X.env)).all (fun x => !x.1) && (backToKw cpos (keywordEach [] X.env)).all (fun x => x.1.isSome)
      && decide ([e].length + ([] : List Keyword).length + (if ([] : List Keyword).isEmpty then 0 else 1) < 30)) = true := by rfl)
    (hline : (apos.endLine == cpos.line) = true := by rfl) (hs : starEach [e] X.env = (false, eval e X.env) :: starEach [] X.env := by rfl) (hplain : (backTo cpos (starEach [] X.env)).any (·.1) = false := by rfl) :
    PE X (.Call (.Attribute o "append" apos) [e] [] cpos) (tBM K "list" rAppend to ta) := hK ▸ pe_bm PySem.F.plainAttrs_list PySem.F.slot_list_append PySem.F.type_list_append mt_append ho ha hbase hfew hline hs hplain
end
section
variable {X : Cx}
theorem sv (i : Nat) {x : Str} {e : Expr} {te : TE} {pos pos' : Pos} (hN : X.N.Nodup) (he : PE X e te) (hi : X.N[i]? = some x := by rfl) (hx : Loc X.env.scope x := by first | exact Or.inl rfl | exact Or.inr rfl) (hs : swapsWith e (some (.Name x pos')) pos.line X.env = pure false := by rfl) (hf : X.fn x = true ∨ X.env.scope.names.lookup x = some .local := by first | exact .inl rfl | exact .inr rfl) :
    PS X (.Assign [.Name x pos'] e pos) (tAsg te (gName i)) := ps_set hN hi hx he hs hf
theorem gn (i : Nat) {x : Str} {pos : Pos} (hN : X.N.Nodup) (hi : X.N[i]? = some x := by rfl) (hx : Loc X.env.scope x := by first | exact Or.inl rfl | exact Or.inr rfl) (hf : X.fn x = true ∨ X.env.scope.names.lookup x = some .local := by first | exact .inl rfl | exact .inr rfl) : PG X (.Name x pos) (gName i) := pg_name hN hi hx hf
theorem cb {x : Str} {e : Expr} {es : List Expr} {t : TA} {id : String} {r : List V → Hp → VK → Prop} {p pos : Pos} (hc : CallR X (.builtin id) r) (hm : X.mg x = none) (ha : PA X (e :: es) t) (hg : Gl X x := by rfl) (hv : bootBuiltins x = some (.builtin id) := by decide +kernel) (hn : x ≠ "__name__" := by decide) (hdb : (x == ("__debug__" : Str)) = false := by decide)
    (he : starEach (e :: es) X.env = (false, eval e X.env) :: starEach es X.env := by rfl) (hpl : (backTo pos (starEach es X.env)).any (·.1) = false := by rfl) : PE X (.Call (.Name x p) (e :: es) [] pos) (tCB r t) := pe_callB hc hg hm hv ha hn hdb he hpl
theorem ct {x : Str} {e : Expr} {es : List Expr} {t : TA} {T : String} {r : List V → Hp → VK → Prop} {p pos : Pos} (hc : CallR X (.type T) r) (hm : X.mg x = none) (ha : PA X (e :: es) t) (hg : Gl X x := by rfl) (hv : bootBuiltins x = some (.type T) := by decide +kernel) (hn : x ≠ "__name__" := by decide) (hdb : (x == ("__debug__" : Str)) = false := by decide)
    (he : starEach (e :: es) X.env = (false, eval e X.env) :: starEach es X.env := by rfl) (hpl : (backTo pos (starEach es X.env)).any (·.1) = false := by rfl) : PE X (.Call (.Name x p) (e :: es) [] pos) (tCB r t) := pe_callTy hc hg hm hv ha hn hdb he hpl
end
theorem _root_.L2.Room.le {j k : Nat} {A : Around} (r : L2.Room k A) (h : j ≤ k := by first | decide | exact Nat.le_refl _) : L2.Room j A := r.mono h

/-! ### statements, something behind -/
section
variable {K : PySem.W.Frag} {E : L2.WX} {ρ : Rho} {P : Pst} {te ta tb : TE} {t u tz : TS} {tt : TT} {d x y : D} {l : List D} {ds : List D} {tr : TA} {g : TG} {i : Nat} {wi : TI}
theorem wq_asg (hv : EvD K te ρ d) (h : Ws K E tz (ρ.set i (.im d)) P) : Ws K E (tSeq (tAsg te (gName i)) tz) ρ P := ws_seq (ws_asg hv h)
theorem wq_asgO (hv : EvO K te ρ l) (hi : i < ρ.length) (h : Ws K E tz (ρ.set i (.ow l)) P) : Ws K E (tSeq (tAsg te (gName i)) tz) ρ P := ws_seq (ws_asgO hv hi h)
theorem wq_asgC (hv : EvC K te ρ d) (hi : i < ρ.length) (h : Ws K E tz (ρ.set i (.cl d)) P) : Ws K E (tSeq (tAsg te (gName i)) tz) ρ P := ws_seq (ws_asgC hv hi h)
theorem wq_asgG {as : List (Nat × D)} (hv : EvD K te ρ d) (hg : GDs K g d as) (h : Ws K E tz (setD ρ as) P) : Ws K E (tSeq (tAsg te g) tz) ρ P := ws_seq (ws_asgG hv hg h)
theorem wq_asgX {Pr : PrD} (ha : EvA K tr ρ ds) (hi : i < ρ.length) (h : Pr ds (okSl (fun ρ' => Ws K E tz ρ' P) ρ i) (P.ex ρ)) : Ws K E (tSeq (tAsg (tCallS (spD K Pr) (WE E) tr) (gName i)) tz) ρ P := ws_seq (ws_asgX ha hi h)
theorem wq_drop (hv : EvD K te ρ d) (h : Ws K E tz ρ P) : Ws K E (tSeq (tDrop te) tz) ρ P := ws_seq (ws_drop hv h)
theorem wq_dropX {Pr : PrD} (ha : EvA K tr ρ ds) (h : Pr ds (fun s => s ≠ .no → Ws K E tz ρ P) (P.ex ρ)) : Ws K E (tSeq (tDrop (tCallS (spD K Pr) (WE E) tr)) tz) ρ P := ws_seq (ws_dropX ha h)
theorem wq_app (e : ρ[i]? = some (.ow l)) (hv : EvD K te ρ d) (hz : l.length < 100000) (h : Ws K E tz (ρ.set i (.ow (l ++ [d]))) P) : Ws K E (tSeq (tDrop (tBM K "list" rAppend (tVar i) (tCons te tNil))) tz) ρ P := ws_seq (ws_app e hv hz h)
theorem wq_setL {j : Nat} {z : Int} (e : ρ[i]? = some (.ow l)) (hv : EvD K te ρ d) (hi : EvD K tb ρ (.int z)) (hj : ixN l.length z = some j) (h : Ws K E tz (ρ.set i (.ow (l.set j d))) P) : Ws K E (tSeq (tAsg te (gSub (tVar i) tb rSetL)) tz) ρ P := ws_seq (ws_setL e hv hi hj h)
theorem wq_aug {r : R2} {z : D} (e : ρ[i]? = some (.im x)) (hv : EvD K te ρ y) (hr : RvD K r x y z) (h : Ws K E tz (ρ.set i (.im z)) P) : Ws K E (tSeq (tAug i te r) tz) ρ P := ws_seq (ws_aug e hv hr h)
theorem wq_if {b : Bool} (hc : EvT K tt ρ b) (h1 : b = true → Ws K E t ρ { P with nx := fun ρ' => Ws K E tz ρ' P }) (h2 : b = false → Ws K E u ρ { P with nx := fun ρ' => Ws K E tz ρ' P }) : Ws K E (tSeq (tIfS tt t u) tz) ρ P := ws_seq (ws_if hc h1 h2)
theorem wq_when {b : Bool} (hc : EvT K tt ρ b) (h1 : b = true → Ws K E t ρ { P with nx := fun ρ' => Ws K E tz ρ' P }) (h2 : b = false → Ws K E tz ρ P) : Ws K E (tSeq (tIfS tt t tNext) tz) ρ P := ws_seq (ws_if hc h1 fun hb => ws_next (h2 hb))
theorem wq_for (hs : SrcD K wi ρ l) (Iv : Nat → Rho → Prop) (h0 : Iv 0 ρ)
    (hb : ∀ i d ρ', l[i]? = some d → Iv i ρ' → ∃ as, GDs K g d as ∧ Ws K E tb' (setD ρ' as) { P with nx := Iv (i + 1), ct := Iv (i + 1), bk := fun ρ' => Ws K E tz ρ' P })
    (hd : ∀ ρ', Iv l.length ρ' → Ws K E tz ρ' P) : Ws K E (tSeq (tFor wi g tb') tz) ρ P := ws_seq (ws_for hs Iv h0 hb hd)
theorem wq_while {tb : TS} (Iv : Nat → Rho → Prop) (m0 : Nat) (h0 : Iv m0 ρ)
    (hb : ∀ m ρ', Iv m ρ' → ∃ b, EvT K tt ρ' b ∧ (b = true → Ws K E tb ρ' { P with nx := fun ρ2 => ∃ m', m' < m ∧ Iv m' ρ2, ct := fun ρ2 => ∃ m', m' < m ∧ Iv m' ρ2, bk := fun ρ' => Ws K E tz ρ' P }) ∧ (b = false → Ws K E tz ρ' P)) : Ws K E (tSeq (tWhile tt tb) tz) ρ P := ws_seq (ws_while Iv m0 h0 hb)
/-- a fact of the state, written as one likes -/
theorem ws_to {ρ' : Rho} (e : ρ = ρ') (h : Ws K E t ρ' P) : Ws K E t ρ P := e ▸ h
end
/-- bounds by powers of two, small numbers -/
theorem cdiv_small {i j : Int} (h : 0 < j) (h2 : j < 2 ^ 62) : CDivW i j := wide_div (b := 62) h (by omega) (by decide) (by decide)
theorem cmul_left {i j : Int} (h : -(2 ^ 62) < i ∧ i < 2 ^ 62) : CMul i j := .inl ⟨by omega, by omega⟩
theorem cmul_right {i j : Int} (h : -(2 ^ 62) < j ∧ j < 2 ^ 62) : CMul i j := .inr ⟨by omega, by omega⟩
/-! items of plain lists -/
theorem at_map {α : Type} {f : α → D} {l : List α} {k : Nat} {x : α} (h : l[k]? = some x) : atI (l.map f) (k : Int) = some (f x) := atI_nat (by rw [List.getElem?_map, h] <;> rfl)
theorem at_ints {ns : List Int} {k : Nat} (h : k < ns.length) : atI (ns.map D.int) (k : Int) = some (.int (ns.getD k 0)) := at_map (by rw [List.getD_eq_getElem?_getD, List.getElem?_eq_getElem h] <;> rfl)
end FS
set_option Elab.async false
set_option linter.all false
set_option maxRecDepth 100000
set_option maxHeartbeats 4000000
namespace FS
open PySem PySem.Spec PyProof.Rows L2

/-! ### == of data -/
mutual
def D.py : D → PyData
  | .bl b => .bool b
  | .int i => .int i
  | .str x => .str x
  | .tup l => .tuple (D.pyL l)
  | .lst l => .list (D.pyL l)
  | _ => .none
def D.pyL : List D → List PyData
  | [] => []
  | d :: l => D.py d :: D.pyL l
end
mutual
/-- None, truth values, ints, texts, lists and tuples of these, at most n deep -/
def D.flat : Nat → D → Bool
  | _, .non => true
  | _, .bl _ => true
  | _, .int _ => true
  | _, .str x => PyData.strOk x
  | n + 1, .tup l => D.flatL n l
  | n + 1, .lst l => D.flatL n l
  | _, _ => false
def D.flatL : Nat → List D → Bool
  | _, [] => true
  | n, d :: l => D.flat n d && D.flatL n l
end
theorem flatL_iff {n : Nat} : ∀ {l : List D}, D.flatL n l = true ↔ ∀ d ∈ l, d.flat n = true
  | [] => by simp [D.flatL]
  | d :: l => by simp [D.flatL, flatL_iff (l := l)]
theorem pyL_map : ∀ l : List D, D.pyL l = l.map D.py
  | [] => rfl
  | d :: l => by rw [D.pyL, pyL_map l] <;> rfl
mutual
theorem py_can : ∀ (n : Nat) (d : D), d.flat n = true → d.py.canLay0 = true ∧ d.py.depth ≤ n
  | n, .non, _ => by cases n <;> exact ⟨rfl, Nat.zero_le _⟩
  | n, .bl _, _ => ⟨rfl, Nat.zero_le _⟩
  | n, .int _, _ => ⟨rfl, Nat.zero_le _⟩
  | n, .str x, h => by
    refine ⟨?_, Nat.zero_le _⟩
    cases n <;> exact h
  | 0, .tup l, h => by cases h
  | 0, .lst l, h => by cases h
  | n + 1, .tup l, h => by
    obtain ⟨h1, h2⟩ := py_canL n l h
    exact ⟨h1, Nat.succ_le_succ h2⟩
  | n + 1, .lst l, h => by
    obtain ⟨h1, h2⟩ := py_canL n l h
    exact ⟨h1, Nat.succ_le_succ h2⟩
  | n, .scr _, h => by cases n <;> cases h
  | n, .ty _, h => by cases n <;> cases h
  | n, .obj _, h => by cases n <;> cases h
  | n, .ins _ _ _, h => by cases n <;> cases h
  | n, .exc _ _ _ _, h => by cases n <;> cases h
  | n, .dic _ _, h => by cases n <;> cases h
  | n, .slf _ _ _ _, h => by cases n <;> cases h
  | n, .kn _, h => by cases n <;> cases h
theorem py_canL : ∀ (n : Nat) (l : List D), D.flatL n l = true → PyData.canLayAll0 (D.pyL l) = true ∧ PyData.depthAll (D.pyL l) ≤ n
  | n, [], _ => ⟨rfl, Nat.zero_le _⟩
  | n, d :: l, h => by
    have h' : d.flat n = true ∧ D.flatL n l = true := by simpa [D.flatL] using h
    obtain ⟨a1, a2⟩ := py_can n d h'.1
    obtain ⟨b1, b2⟩ := py_canL n l h'.2
    refine ⟨?_, Nat.max_le.mpr ⟨a2, b2⟩⟩
    show (d.py.canLay0 && PyData.canLayAll0 (D.pyL l)) = true
    rw [a1, b1] <;> rfl
end
theorem py_shaped {n : Nat} {d : D} (h : d.flat n = true) (hn : n ≤ 64) : SeqAt.shaped d.py = true := by
  obtain ⟨h1, h2⟩ := py_can n d h
  unfold SeqAt.shaped
  rw [h1, decide_eq_true (Nat.le_trans h2 hn)] <;> rfl
mutual
theorem is_dp {K : PySem.W.Frag} {H : Hp} : ∀ (n : Nat) (d : D) (v : V), d.flat n = true → Is K H d v → Dp K H v d.py
  | n, .non, _, _, h => by rw [show _ = V.non from h]; exact .non
  | n, .bl b, _, _, h => by rw [show _ = V.bl b from h]; exact .bl b
  | n, .int i, _, _, h => by rw [show _ = V.int i from h]; exact .int i
  | n, .str x, _, _, h => by rw [show _ = V.str x from h]; exact .str x
  | 0, .tup l, _, h, _ => by cases h
  | 0, .lst l, _, h, _ => by cases h
  | n + 1, .tup l, _, h, ⟨a, vs, e, h1, h2⟩ => by
    subst e
    exact .tup h1 (is_dpL n l vs h h2)
  | n + 1, .lst l, _, h, ⟨a, vs, e, h1, h2⟩ => by
    subst e
    exact .lst (.inl (.inl h1)) (is_dpL n l vs h h2)
  | n, .scr _, _, h, _ => by cases n <;> cases h
  | n, .ty _, _, h, _ => by cases n <;> cases h
  | n, .obj _, _, h, _ => by cases n <;> cases h
  | n, .ins _ _ _, _, h, _ => by cases n <;> cases h
  | n, .exc _ _ _ _, _, h, _ => by cases n <;> cases h
  | n, .dic _ _, _, h, _ => by cases n <;> cases h
  | n, .slf _ _ _ _, _, h, _ => by cases n <;> cases h
  | n, .kn _, _, h, _ => by cases n <;> cases h
theorem is_dpL {K : PySem.W.Frag} {H : Hp} : ∀ (n : Nat) (l : List D) (vs : List V), D.flatL n l = true → IsL K H l vs → DpAll K H vs (D.pyL l)
  | n, [], _, _, h => by rw [show _ = [] from h]; exact .nil
  | n, d :: l, _, h, ⟨v, r, e, h1, h2⟩ => by
    have h' : d.flat n = true ∧ D.flatL n l = true := by simpa [D.flatL] using h
    rw [e]
    exact .cons (is_dp n d v h'.1 h1) (is_dpL n l r h'.2 h2)
end
section
variable {K : PySem.W.Frag} {ρ : Rho} {x y z d : D} {l : List D} {n : Nat} {te ta tb : TE} {i : Nat} {E : L2.WX} {P : Pst}
theorem rv_eqD (h1 : x.flat n = true) (h2 : y.flat n = true) (hn : n ≤ 64) : RvD K (rEqA K) x y (.bl (PyData.eqv x.py y.py)) := fun H T vx vy Q s i1 i2 q =>
  .inr ⟨x.py, y.py, is_dp n x vx h1 (i1.up s), is_dp n y vy h2 (i2.up s), py_shaped h1 hn, py_shaped h2 hn, q _ rfl⟩
theorem rv_neD (h1 : x.flat n = true) (h2 : y.flat n = true) (hn : n ≤ 64) : RvD K (rNeA K) x y (.bl (!PyData.eqv x.py y.py)) := fun H T vx vy Q s i1 i2 q =>
  .inr ⟨x.py, y.py, is_dp n x vx h1 (i1.up s), is_dp n y vy h2 (i2.up s), py_shaped h1 hn, py_shaped h2 hn, q _ rfl⟩
theorem rv_eqDD (h1 : x.flat n = true) (hn : n ≤ 64) : RvD K (rEqA K) x x (.bl true) := by
  have h := rv_eqD (K := K) h1 h1 hn
  rw [SeqAt.eqv_refl _ (py_can n x h1).1] at h
  exact h
theorem rv_neDD (h1 : x.flat n = true) (hn : n ≤ 64) : RvD K (rNeA K) x x (.bl false) := by
  have h := rv_neD (K := K) h1 h1 hn
  rw [SeqAt.eqv_refl _ (py_can n x h1).1] at h
  exact h

/-! ### isinstance -/
/-- the built-in class of d -/
def D.cls : D → Option String
  | .non => some "NoneType"
  | .bl _ => some "bool"
  | .int _ => some "int"
  | .str _ => some "str"
  | .tup _ => some "tuple"
  | .lst _ => some "list"
  | _ => none
theorem tyx_of {H : Hp} {v : V} {c : String} (h : Is K H d v) (e : d.cls = some c) : TyX K H v (.type c) := by
  cases d with
  | non => cases e; rw [show v = V.non from h]; exact .base .non
  | bl b => cases e; rw [show v = V.bl b from h]; exact .base (.bl b)
  | int b => cases e; rw [show v = V.int b from h]; exact .base (.int b)
  | str b => cases e; rw [show v = V.str b from h]; exact .base (.str b)
  | tup l =>
    cases e
    obtain ⟨a, vs, rfl, h1, _⟩ := h
    rcases h1 with (h1 | ⟨o, h1⟩) | ⟨o, its, n, h1, h2, _⟩
    · exact .base (.tup h1)
    · exact .fTuple h1
    · exact .kTuple h1 h2
  | lst l =>
    cases e
    obtain ⟨a, vs, rfl, h1, _⟩ := h
    exact .base (.lst h1)
  | scr l => cases e
  | ty l => cases e
  | obj l => cases e
  | ins C ns l => cases e
  | exc a od ns l => cases e
  | dic a b => cases e
  | slf a b c f => cases e
  | kn b => cases e
theorem rc_isi {c t : String} {r : Bool} (e : d.cls = some c) (hk : kitB c t = some r) : RcD K (rIsi K) [d, .ty t] (.bl r) := fun H T vs Q s h q => by
  obtain ⟨v, w, rfl, h1, h2⟩ := isL_two h
  exact ⟨v, .ty t, .type c, .type t, r, by rw [show w = V.ty t from h2], .ty t, tyx_of (h1.up s) e, kit_ty hk, q _ rfl⟩

end
theorem rv_p6 {K : PySem.W.Frag} : RvD K rPowA (.int 10) (.int 6) (.int 1000000) := rv_pow ⟨by decide, by decide, by decide⟩ (by decide)
theorem rv_p7 {K : PySem.W.Frag} : RvD K rPowA (.int 10) (.int 7) (.int 10000000) := rv_pow ⟨by decide, by decide, by decide⟩ (by decide)
theorem rv_p8 {K : PySem.W.Frag} : RvD K rPowA (.int 10) (.int 8) (.int 100000000) := rv_pow ⟨by decide, by decide, by decide⟩ (by decide)
theorem rv_p12 {K : PySem.W.Frag} : RvD K rPowA (.int 10) (.int 12) (.int 1000000000000) := rv_pow ⟨by decide, by decide, by decide⟩ (by decide)
theorem rv_p18 {K : PySem.W.Frag} : RvD K rPowA (.int 10) (.int 18) (.int 1000000000000000000) := rv_pow ⟨by decide, by decide, by decide⟩ (by decide)
theorem rv_p20 {K : PySem.W.Frag} : RvD K rPowA (.int 10) (.int 20) (.int 100000000000000000000) := rv_pow ⟨by decide, by decide, by decide⟩ (by decide)
theorem rv_p25 {K : PySem.W.Frag} : RvD K rPowA (.int 10) (.int 25) (.int 10000000000000000000000000) := rv_pow ⟨by decide, by decide, by decide⟩ (by decide)
theorem rv_p30 {K : PySem.W.Frag} : RvD K rPowA (.int 10) (.int 30) (.int 1000000000000000000000000000000) := rv_pow ⟨by decide, by decide, by decide⟩ (by decide)
theorem rv_p39 {K : PySem.W.Frag} : RvD K rPowA (.int 10) (.int 39) (.int 1000000000000000000000000000000000000000) := rv_pow ⟨by decide, by decide, by decide⟩ (by decide)
theorem rv_p40 {K : PySem.W.Frag} : RvD K rPowA (.int 10) (.int 40) (.int 10000000000000000000000000000000000000000) := rv_pow ⟨by decide, by decide, by decide⟩ (by decide)
theorem rv_p60 {K : PySem.W.Frag} : RvD K rPowA (.int 10) (.int 60) (.int 1000000000000000000000000000000000000000000000000000000000000) := rv_pow ⟨by decide, by decide, by decide⟩ (by decide)
theorem at_getD {ns : List Int} {k : Int} (h0 : 0 ≤ k) (h : k < ns.length) : atI (ns.map D.int) k = some (.int (ns.getD k.toNat 0)) := by
  have e : k = ((k.toNat : Nat) : Int) := by omega
  have := at_ints (ns := ns) (k := k.toNat) (by omega)
  rw [← e] at this
  exact this
theorem atI_getD {ns : List Int} {k : Int} (h0 : 0 ≤ k) (h : k < ns.length) : atI ns k = some (ns.getD k.toNat 0) := by
  unfold atI ixN
  rw [if_pos h0, if_pos h]
  show ns[k.toNat]? = _
  rw [List.getD_eq_getElem?_getD, List.getElem?_eq_getElem (by omega)]
  rfl
theorem ev_ty {K : PySem.W.Frag} {ρ : Rho} {n : String} : EvD K (tC (.ty n)) ρ (.ty n) := ev_c fun _ => rfl
section
variable {K : PySem.W.Frag} {E : L2.WX} {ρ : Rho} {P : Pst} {t u tz : TS} {tt : TT} {b : Bool}
theorem ws_ifT (hc : EvT K tt ρ b) (e : b = true) (h : Ws K E t ρ P) : Ws K E (tIfS tt t u) ρ P := ws_if hc (fun _ => h) (fun z => by rw [e] at z; cases z)
theorem ws_ifF (hc : EvT K tt ρ b) (e : b = false) (h : Ws K E u ρ P) : Ws K E (tIfS tt t u) ρ P := ws_if hc (fun z => by rw [e] at z; cases z) (fun _ => h)
theorem wq_ifT (hc : EvT K tt ρ b) (e : b = true) (h : Ws K E t ρ { P with nx := fun ρ' => Ws K E tz ρ' P }) : Ws K E (tSeq (tIfS tt t u) tz) ρ P := ws_seq (ws_ifT hc e h)
theorem wq_ifF (hc : EvT K tt ρ b) (e : b = false) (h : Ws K E u ρ { P with nx := fun ρ' => Ws K E tz ρ' P }) : Ws K E (tSeq (tIfS tt t u) tz) ρ P := ws_seq (ws_ifF hc e h)
theorem wq_noif (hc : EvT K tt ρ b) (e : b = false) (h : Ws K E tz ρ P) : Ws K E (tSeq (tIfS tt t tNext) tz) ρ P := ws_seq (ws_ifF hc e (ws_next h))
end
/-- a def of which nothing is said -/
theorem Df.none {P : Program} {w : World} {K : PySem.W.Frag} {mg : Str → Option Value} {base : Heap} {x : Str} {st : Stmt} {ps : List Str} {CX : CXT} {k : Nat} (F : Df K mg x st ps) : FnG P w K mg base CX k x ps (spD K fun _ _ _ => False) := by
  obtain ⟨f, fd, F, hm, hb⟩ := F.ex
  exact ⟨f, fd, ⟨fun vs H Q E h => by
    obtain ⟨_, _, _, _, _, _, _, h, _⟩ := h
    exact h.elim, fun A outer s H args us vs Q E hr he hb hv h => by
    obtain ⟨_, _, _, _, _, _, _, h, _⟩ := h
    exact h.elim⟩, hm, F.kp, hb⟩
/-! data of ints, None, tuples and lists, at most n levels deep -/
mutual
def D.pl : Nat → D → Bool
  | _, .non => true
  | _, .int _ => true
  | n + 1, .tup l => D.plL n l && decide (l.length ≤ 100000)
  | n + 1, .lst l => D.plL n l && decide (l.length ≤ 100000)
  | _, _ => false
def D.plL : Nat → List D → Bool
  | _, [] => true
  | n, d :: l => D.pl n d && D.plL n l
end
theorem D.plL_get {n : Nat} : ∀ {l : List D} {i : Nat} {d : D}, D.plL n l = true → l[i]? = some d → D.pl n d = true
  | [], _, _, _, h => by simp at h
  | x :: l, 0, d, h, e => by
    rw [D.plL, Bool.and_eq_true] at h
    cases e
    exact h.1
  | x :: l, i + 1, d, h, e => by
    rw [D.plL, Bool.and_eq_true] at h
    exact D.plL_get h.2 e
theorem D.plL_of {n : Nat} : ∀ {l : List D}, (∀ d ∈ l, D.pl n d = true) → D.plL n l = true
  | [], _ => by simp [D.plL]
  | x :: l, h => by rw [D.plL, h x List.mem_cons_self, D.plL_of fun d hd => h d (List.mem_cons_of_mem _ hd)] <;> rfl
theorem D.pl_int {n : Nat} {i : Int} : D.pl n (.int i) = true := by cases n <;> rfl
theorem D.pl_non {n : Nat} : D.pl n .non = true := by cases n <;> rfl
theorem isi_non_int {K : PySem.W.Frag} : RcD K (rIsi K) [D.non, .ty "int"] (.bl false) := rc_isi rfl (by decide +kernel)
theorem isi_non_bool {K : PySem.W.Frag} : RcD K (rIsi K) [D.non, .ty "bool"] (.bl false) := rc_isi rfl (by decide +kernel)
theorem isi_non_str {K : PySem.W.Frag} : RcD K (rIsi K) [D.non, .ty "str"] (.bl false) := rc_isi rfl (by decide +kernel)
theorem isi_non_tuple {K : PySem.W.Frag} : RcD K (rIsi K) [D.non, .ty "tuple"] (.bl false) := rc_isi rfl (by decide +kernel)
theorem isi_non_list {K : PySem.W.Frag} : RcD K (rIsi K) [D.non, .ty "list"] (.bl false) := rc_isi rfl (by decide +kernel)
theorem isi_bl_int {K : PySem.W.Frag} {b : Bool} : RcD K (rIsi K) [D.bl b, .ty "int"] (.bl true) := rc_isi rfl (by decide +kernel)
theorem isi_bl_bool {K : PySem.W.Frag} {b : Bool} : RcD K (rIsi K) [D.bl b, .ty "bool"] (.bl true) := rc_isi rfl (by decide +kernel)
theorem isi_bl_str {K : PySem.W.Frag} {b : Bool} : RcD K (rIsi K) [D.bl b, .ty "str"] (.bl false) := rc_isi rfl (by decide +kernel)
theorem isi_bl_tuple {K : PySem.W.Frag} {b : Bool} : RcD K (rIsi K) [D.bl b, .ty "tuple"] (.bl false) := rc_isi rfl (by decide +kernel)
theorem isi_bl_list {K : PySem.W.Frag} {b : Bool} : RcD K (rIsi K) [D.bl b, .ty "list"] (.bl false) := rc_isi rfl (by decide +kernel)
theorem isi_int_int {K : PySem.W.Frag} {i : Int} : RcD K (rIsi K) [D.int i, .ty "int"] (.bl true) := rc_isi rfl (by decide +kernel)
theorem isi_int_bool {K : PySem.W.Frag} {i : Int} : RcD K (rIsi K) [D.int i, .ty "bool"] (.bl false) := rc_isi rfl (by decide +kernel)
theorem isi_int_str {K : PySem.W.Frag} {i : Int} : RcD K (rIsi K) [D.int i, .ty "str"] (.bl false) := rc_isi rfl (by decide +kernel)
theorem isi_int_tuple {K : PySem.W.Frag} {i : Int} : RcD K (rIsi K) [D.int i, .ty "tuple"] (.bl false) := rc_isi rfl (by decide +kernel)
theorem isi_int_list {K : PySem.W.Frag} {i : Int} : RcD K (rIsi K) [D.int i, .ty "list"] (.bl false) := rc_isi rfl (by decide +kernel)
theorem isi_str_int {K : PySem.W.Frag} {t : Str} : RcD K (rIsi K) [D.str t, .ty "int"] (.bl false) := rc_isi rfl (by decide +kernel)
theorem isi_str_bool {K : PySem.W.Frag} {t : Str} : RcD K (rIsi K) [D.str t, .ty "bool"] (.bl false) := rc_isi rfl (by decide +kernel)
theorem isi_str_str {K : PySem.W.Frag} {t : Str} : RcD K (rIsi K) [D.str t, .ty "str"] (.bl true) := rc_isi rfl (by decide +kernel)
theorem isi_str_tuple {K : PySem.W.Frag} {t : Str} : RcD K (rIsi K) [D.str t, .ty "tuple"] (.bl false) := rc_isi rfl (by decide +kernel)
theorem isi_str_list {K : PySem.W.Frag} {t : Str} : RcD K (rIsi K) [D.str t, .ty "list"] (.bl false) := rc_isi rfl (by decide +kernel)
theorem isi_tup_int {K : PySem.W.Frag} {l : List D} : RcD K (rIsi K) [D.tup l, .ty "int"] (.bl false) := rc_isi rfl (by decide +kernel)
theorem isi_tup_bool {K : PySem.W.Frag} {l : List D} : RcD K (rIsi K) [D.tup l, .ty "bool"] (.bl false) := rc_isi rfl (by decide +kernel)
theorem isi_tup_str {K : PySem.W.Frag} {l : List D} : RcD K (rIsi K) [D.tup l, .ty "str"] (.bl false) := rc_isi rfl (by decide +kernel)
theorem isi_tup_tuple {K : PySem.W.Frag} {l : List D} : RcD K (rIsi K) [D.tup l, .ty "tuple"] (.bl true) := rc_isi rfl (by decide +kernel)
theorem isi_tup_list {K : PySem.W.Frag} {l : List D} : RcD K (rIsi K) [D.tup l, .ty "list"] (.bl false) := rc_isi rfl (by decide +kernel)
theorem isi_lst_int {K : PySem.W.Frag} {l : List D} : RcD K (rIsi K) [D.lst l, .ty "int"] (.bl false) := rc_isi rfl (by decide +kernel)
theorem isi_lst_bool {K : PySem.W.Frag} {l : List D} : RcD K (rIsi K) [D.lst l, .ty "bool"] (.bl false) := rc_isi rfl (by decide +kernel)
theorem isi_lst_str {K : PySem.W.Frag} {l : List D} : RcD K (rIsi K) [D.lst l, .ty "str"] (.bl false) := rc_isi rfl (by decide +kernel)
theorem isi_lst_tuple {K : PySem.W.Frag} {l : List D} : RcD K (rIsi K) [D.lst l, .ty "tuple"] (.bl false) := rc_isi rfl (by decide +kernel)
theorem isi_lst_list {K : PySem.W.Frag} {l : List D} : RcD K (rIsi K) [D.lst l, .ty "list"] (.bl true) := rc_isi rfl (by decide +kernel)
end FS
set_option Elab.async false
set_option linter.all false
set_option maxRecDepth 100000
set_option maxHeartbeats 4000000
namespace FS
open PySem PySem.Spec PyProof.Rows L2

/-! ### parts of open trees, by path -/
section
variable {K : PySem.W.Frag} {E : L2.WX} {ρ : Rho} {P : Pst} {M X : Op} {T0 H H' T T' : Hp} {σ : L2.St} {te ta tb to : TE} {t u : TS} {d s x y : D} {l : List D} {ds : List D} {tr : TA} {i j : Nat} {π : List Nat}
theorem EnX.spot (h : EnX K M T0 H T σ ρ X) (e : ρ[i]? = some (.cl d)) (hd : D.at π d = some s) : ∃ v u Ls L0, σ[i]? = some (some v) ∧ IsC K H s u Ls ∧ Nav T π v u ∧ EnX K M T0 H T σ (ρ.set i .no) (Ls ++ (L0 ++ X)) ∧
    ∀ H' T' X' s' Ls', Same H H' → EnX K M T0 H' T' σ (ρ.set i .no) (Ls' ++ (L0 ++ X')) → IsC K H' s' u Ls' → EnX K M T0 H' T' σ (ρ.set i (.cl (D.put π d s'))) X' := by
  obtain ⟨x, Lt, h1, h2, h3⟩ := h.take e
  obtain ⟨v, rfl, hc⟩ := h2.cl1
  obtain ⟨u, Ls, L0, k1, k2, k3, k4⟩ := hc.focus hd
  have hi : i < (ρ.set i .no).length := by rw [List.length_set]; exact (List.getElem?_eq_some_iff.mp e).1
  refine ⟨v, u, Ls, L0, h1, k1, k3 T fun x hx => ?_, ?_, fun H' T' X' s' Ls' sm h' ic => ?_⟩
  · obtain ⟨L, r, q, f⟩ := h3.ex
    exact q.at_ x (List.mem_append_left _ (List.mem_append_left _ hx))
  · refine h3.perm ?_
    rw [← List.append_assoc]
    exact k2.append_right X
  · obtain ⟨L', q1, q2⟩ := k4 H' s' Ls' sm ic
    have h'' : EnX K M T0 H' T' σ (ρ.set i .no) (L' ++ X') := h'.perm (by
      rw [← List.append_assoc]
      exact (q2.symm.append_right X'))
    have q3 := EnX.setC (i := i) h'' hi q1
    rw [set_self h1, List.set_set] at q3
    exact q3
theorem EnX.here (h : EnX K M T0 H T σ ρ X) {Ls R : Op} (e : X = Ls ++ R) : ∀ x ∈ Ls, T x.1 = some x.2 := fun x hx => by
  obtain ⟨L, r, q, f⟩ := h.ex
  exact q.at_ x (List.mem_append_left _ (by rw [e]; exact List.mem_append_left _ hx))
/-- te is the part at π of the open tree in slot i -/
def EvL (K : PySem.W.Frag) (te : TE) (ρ : Rho) (i : Nat) (π : List Nat) : Prop := ∀ (M : Op) (T0 H T : Hp) (σ : L2.St) (X : Op) (Q : VK), EnX K M T0 H T σ ρ X → (∀ u H' T', Same H H' → Same T T' → EnX K M T0 H' T' σ ρ X → (∃ v, σ[i]? = some (some v) ∧ Nav T' π v u) → Q u T') → te σ T Q
theorem el_var (e : ρ[i]? = some (.cl d)) : EvL K (tVar i) ρ i [] := fun M T0 H T σ X Q h q => by
  obtain ⟨v, u, Ls, L0, h1, h2, h3, _⟩ := h.spot (π := []) e rfl
  exact ⟨v, h1, q v H T (Same.refl _) (Same.refl _) h ⟨v, h1, rfl⟩⟩
theorem Nav.snoc {v a : V} : ∀ {π : List Nat} {v w : V} {a : Addr}, Nav T π v (.ref a) → ((∃ vs, (T a = some (.lst vs) ∨ T a = some (.tup vs)) ∧ vs[j]? = some w) ∨ (∃ C dx fs n, T a = some (.ins C dx fs) ∧ fs[j]? = some (n, w)) ∨ (∃ kvs k, T a = some (.dK kvs) ∧ kvs[j]? = some (k, w))) → Nav T (π ++ [j]) v w
  | [], v, w, a, h, q => ⟨a, w, h, q, rfl⟩
  | k :: π, v, w, a, ⟨b, z, e, h, n⟩, q => ⟨b, z, e, h, Nav.snoc (v := v) (a := v) n q⟩
theorem at_snoc : ∀ {π : List Nat} {d s t : D}, D.at π d = some s → D.at [j] s = some t → D.at (π ++ [j]) d = some t
  | [], d, s, t, e, h => by
    have e : d = s := Option.some.inj e
    rw [e]
    exact h
  | k :: π, d, s, t, e, h => by
    cases d with
    | tup l =>
      obtain ⟨x, hx, e⟩ := Option.bind_eq_some_iff.mp (show (l[k]?).bind (D.at π) = some s from e)
      exact Option.bind_eq_some_iff.mpr ⟨x, hx, at_snoc e h⟩
    | lst l =>
      obtain ⟨x, hx, e⟩ := Option.bind_eq_some_iff.mp (show (l[k]?).bind (D.at π) = some s from e)
      exact Option.bind_eq_some_iff.mpr ⟨x, hx, at_snoc e h⟩
    | ins C ns l =>
      have e : (if k < ns.length then (l[k]?).bind (D.at π) else none) = some s := e
      by_cases hk : k < ns.length
      · rw [if_pos hk] at e
        obtain ⟨x, hx, e⟩ := Option.bind_eq_some_iff.mp e
        show (if k < ns.length then (l[k]?).bind (D.at (π ++ [j])) else none) = some t
        rw [if_pos hk]
        exact Option.bind_eq_some_iff.mpr ⟨x, hx, at_snoc e h⟩
      · rw [if_neg hk] at e
        cases e
    | slf a C ns l =>
      have e : (if k < ns.length then (l[k]?).bind (D.at π) else none) = some s := e
      by_cases hk : k < ns.length
      · rw [if_pos hk] at e
        obtain ⟨x, hx, e⟩ := Option.bind_eq_some_iff.mp e
        show (if k < ns.length then (l[k]?).bind (D.at (π ++ [j])) else none) = some t
        rw [if_pos hk]
        exact Option.bind_eq_some_iff.mpr ⟨x, hx, at_snoc e h⟩
      · rw [if_neg hk] at e
        cases e
    | dic ns l =>
      have e : (if k < ns.length then (l[k]?).bind (D.at π) else none) = some s := e
      by_cases hk : k < ns.length
      · rw [if_pos hk] at e
        obtain ⟨x, hx, e⟩ := Option.bind_eq_some_iff.mp e
        show (if k < ns.length then (l[k]?).bind (D.at (π ++ [j])) else none) = some t
        rw [if_pos hk]
        exact Option.bind_eq_some_iff.mpr ⟨x, hx, at_snoc e h⟩
      · rw [if_neg hk] at e
        cases e
    | non => cases e
    | bl b => cases e
    | int b => cases e
    | str b => cases e
    | scr b => cases e
    | ty b => cases e
    | obj b => cases e
    | exc a b c f => cases e
    | kn b => cases e
theorem atI_of {vs : List V} {k : Int} {w : V} (h : ixN vs.length k = some j) (e : vs[j]? = some w) : atI vs k = some w := by
  unfold atI
  rw [h]
  exact e
/-- PATH[k], a list -/
theorem el_ix {k : Int} (e : ρ[i]? = some (.cl d)) (ha : EvL K ta ρ i π) (hd : D.at π d = some (.lst l)) (hb : EvD K tb ρ (.int k)) (hj : ixN l.length k = some j) : EvL K (tOp (rIx K) ta tb) ρ i (π ++ [j]) := fun M T0 H T σ X Q h q =>
  ha M T0 H T σ X _ h fun u H1 T1 s1 t1 e1 ⟨v, n1, n2⟩ => hb M T0 H1 T1 σ X _ e1 fun w H2 T2 s2 t2 e2 iw => by
    obtain ⟨v', u', Ls, L0, h1, ⟨a, vs, Lt, eu, eL, hl⟩, h3, h4, _⟩ := e2.spot e hd
    rw [n1] at h1
    cases h1
    have eu' := Nav.eq (n2.up t2) h3
    subst eu'
    subst eu
    have hT : T2 a = some (.lst vs) := h4.here rfl (a, .lst vs) (by rw [eL]; exact List.mem_cons_self)
    have hlen := hl.len
    have hjl : j < vs.length := by
      rw [hlen]
      unfold ixN at hj
      split at hj
      · split at hj
        · cases hj
          omega
        · cases hj
      · split at hj
        · cases hj
          omega
        · cases hj
    obtain ⟨z, hz⟩ := get_some hjl
    refine .inl ⟨a, vs, k, z, rfl, iw, .inl (.inl hT), atI_of (by rw [hlen]; exact hj) hz, q z H2 T2 (s1.trans s2) (t1.trans t2) e2 ⟨v, n1, ?_⟩⟩
    exact Nav.snoc (v := z) (a := z) h3 (.inl ⟨vs, .inl hT, hz⟩)
/-- PATH[k], a tuple -/
theorem el_ixT {k : Int} (e : ρ[i]? = some (.cl d)) (ha : EvL K ta ρ i π) (hd : D.at π d = some (.tup l)) (hb : EvD K tb ρ (.int k)) (hj : ixN l.length k = some j) : EvL K (tOp (rIx K) ta tb) ρ i (π ++ [j]) := fun M T0 H T σ X Q h q =>
  ha M T0 H T σ X _ h fun u H1 T1 s1 t1 e1 ⟨v, n1, n2⟩ => hb M T0 H1 T1 σ X _ e1 fun w H2 T2 s2 t2 e2 iw => by
    obtain ⟨v', u', Ls, L0, h1, ⟨a, vs, Lt, eu, eL, hl⟩, h3, h4, _⟩ := e2.spot e hd
    rw [n1] at h1
    cases h1
    have eu' := Nav.eq (n2.up t2) h3
    subst eu'
    subst eu
    have hT : T2 a = some (.tup vs) := h4.here rfl (a, .tup vs) (by rw [eL]; exact List.mem_cons_self)
    have hlen := hl.len
    have hjl : j < vs.length := by
      rw [hlen]
      unfold ixN at hj
      split at hj
      · split at hj
        · cases hj
          omega
        · cases hj
      · split at hj
        · cases hj
          omega
        · cases hj
    obtain ⟨z, hz⟩ := get_some hjl
    refine .inr (.inl ⟨a, vs, k, z, rfl, iw, .inl (.inl hT), atI_of (by rw [hlen]; exact hj) hz, q z H2 T2 (s1.trans s2) (t1.trans t2) e2 ⟨v, n1, ?_⟩⟩)
    exact Nav.snoc (v := z) (a := z) h3 (.inl ⟨vs, .inr hT, hz⟩)
/-- which field -/
def fldAt (ns : List Str) (f : Str) : Option Nat := ns.findIdx? (· == f)
theorem fld_look {α : Type} : ∀ {ns : List Str} {vs : List α} {f : Str} {j : Nat} {w : α}, fldAt ns f = some j → vs[j]? = some w → (ns.zip vs).lookup f = some w ∧ ∃ n, (ns.zip vs)[j]? = some (n, w)
  | [], _, _, _, _, h, _ => by simp [fldAt] at h
  | n :: ns, [], _, _, _, _, h => by simp at h
  | n :: ns, v :: vs, f, j, w, h, e => by
    unfold fldAt at h
    rw [List.findIdx?_cons] at h
    by_cases hn : (n == f) = true
    · rw [if_pos hn] at h
      cases h
      have hn' : n = f := by simpa using hn
      have e : v = w := Option.some.inj e
      subst e
      subst hn'
      exact ⟨by simp [List.lookup], ⟨n, rfl⟩⟩
    · rw [if_neg hn] at h
      obtain ⟨k, hk, ek⟩ := Option.map_eq_some_iff.mp h
      subst ek
      obtain ⟨h1, m, h2⟩ := fld_look (ns := ns) (vs := vs) (f := f) (j := k) (w := w) hk (by simpa using e)
      have hn' : (f == n) = false := by
        have : ¬ n = f := by simpa using hn
        simpa using fun z => this z.symm
      refine ⟨?_, ⟨m, by simpa using h2⟩⟩
      rw [List.zip_cons_cons, List.lookup_cons, hn']
      exact h1
theorem fldAt_lt {ns : List Str} {f : Str} (h : fldAt ns f = some j) : j < ns.length := by
  unfold fldAt at h
  exact (List.findIdx?_eq_some_iff_findIdx_eq.mp h).1
/-- PATH.f -/
theorem el_fld {C : Addr} {ns : List Str} {f : Str} (e : ρ[i]? = some (.cl d)) (ha : EvL K ta ρ i π) (hd : D.at π d = some (.ins C ns l)) (hj : fldAt ns f = some j) (hl0 : j < l.length) (c : Cls K C) (n : NoAttr K C f) : EvL K (tFld K ta f) ρ i (π ++ [j]) := fun M T0 H T σ X Q h q =>
  ha M T0 H T σ X _ h fun u H1 T1 s1 t1 e1 ⟨v, n1, n2⟩ => by
    obtain ⟨v', u', Ls, L0, h1, ⟨a, dx, vs, Lt, eu, eL, hl⟩, h3, h4, _⟩ := e1.spot e hd
    rw [n1] at h1
    cases h1
    have eu' := Nav.eq n2 h3
    subst eu'
    subst eu
    have hT : T1 a = some (.ins C dx (ns.zip vs)) := h4.here rfl (a, .ins C dx (ns.zip vs)) (by rw [eL]; exact List.mem_cons_self)
    obtain ⟨z, hz⟩ := get_some (l := vs) (i := j) (by rw [hl.len]; exact hl0)
    obtain ⟨g1, m, g2⟩ := fld_look hj hz
    exact ⟨a, C, dx, _, z, rfl, hT, c, n, g1, q z H1 T1 s1 t1 e1 ⟨v, n1, Nav.snoc (v := z) (a := z) h3 (.inr (.inl ⟨C, dx, _, m, hT, g2⟩))⟩⟩
/-- what is read there now -/
theorem en_spot (e : ρ[i]? = some (.cl d)) (ha : EvL K ta ρ i π) (hd : D.at π d = some s) : EvN K ta ρ s := fun M T0 H T σ X Q h q =>
  ha M T0 H T σ X _ h fun u H1 T1 s1 t1 e1 ⟨v, n1, n2⟩ => by
    obtain ⟨v', u', Ls, L0, h1, hc, h3, h4, _⟩ := e1.spot e hd
    rw [n1] at h1
    cases h1
    have eu' := Nav.eq n2 h3
    subst eu'
    exact q u H1 T1 s1 t1 e1 (IsC.is s u Ls (hc.up e1.same) (h4.here rfl))
theorem ev_spot (e : ρ[i]? = some (.cl d)) (ha : EvL K ta ρ i π) (hd : D.at π d = some (.kn s)) : EvD K ta ρ s := fun M T0 H T σ X Q h q =>
  ha M T0 H T σ X _ h fun u H1 T1 s1 t1 e1 ⟨v, n1, n2⟩ => by
    obtain ⟨v', u', Ls, L0, h1, hc, h3, h4, _⟩ := e1.spot e hd
    rw [n1] at h1
    cases h1
    have eu' := Nav.eq n2 h3
    subst eu'
    exact q u H1 T1 s1 t1 e1 hc.1
theorem ev_spotS (e : ρ[i]? = some (.cl d)) (ha : EvL K ta ρ i π) (hd : D.at π d = some s) (hs : s.sc = true) : EvD K ta ρ s := ev_now (en_spot e ha hd) hs

/-! ### changes in place -/
/-- PATH.append(e) -/
theorem ws_appP (e : ρ[i]? = some (.cl d)) (hp : EvL K to ρ i π) (hd : D.at π d = some (.lst l)) (hv : EvC K te ρ x) (hz : l.length < 100000) (h : P.nx (ρ.set i (.cl (D.put π d (.lst (l ++ [x])))))) :
    Ws K E (tDrop (tBM K "list" rAppend to (tCons te tNil))) ρ P := fun M T0 H T σ Dn en k =>
  hp M T0 H T σ [] _ en fun u H1 T1 s1 t1 e1 ⟨v, n1, n2⟩ => by
    obtain ⟨v', u', Ls, L0, h1, ⟨a, vs, Lt, eu, eL, hl⟩, h3, h4, _⟩ := e1.spot e hd
    rw [n1] at h1
    cases h1
    have eu' := Nav.eq n2 h3
    subst eu'
    subst eu
    have hT : T1 a = some (.lst vs) := h4.here rfl (a, .lst vs) (by rw [eL]; exact List.mem_cons_self)
    refine ⟨.inl ⟨rfl, vs, .inl (.inl hT)⟩, hv M T0 H1 T1 σ [] _ e1 fun w Lw H2 T2 s2 t2 e2 iw => ?_⟩
    obtain ⟨v2, u2, Ls2, L02, g1, ⟨a2, vs2, Lt2, eu2, eL2, hl2⟩, g3, g4, g5⟩ := e2.spot e hd
    rw [n1] at g1
    cases g1
    have ea := Nav.eq (h3.up t2) g3
    rw [eu2] at ea
    cases ea
    subst eu2
    subst eL2
    have hT2 : T2 a = some (.lst vs2) := g4.here rfl (a, .lst vs2) List.mem_cons_self
    refine ⟨a, vs2, w, rfl, rfl, hT2, by rw [hl2.len]; exact Nat.lt_of_lt_of_le hz (by decide), k.nx _ σ H2 _ h (s1.trans s2) ?_⟩
    refine g5 H2 _ [] (.lst (l ++ [x])) ((a, .lst (vs2 ++ [w])) :: (Lt2 ++ Lw)) (Same.refl _) ?_ ⟨a, _, _, rfl, rfl, hl2.app (.one iw)⟩
    have g6 := EnX.write (o' := .lst (vs2 ++ [w])) g4
    refine g6.perm (List.Perm.cons _ ?_)
    show List.Perm (Lt2 ++ (L02 ++ (Lw ++ []))) ((Lt2 ++ Lw) ++ (L02 ++ []))
    rw [List.append_nil, List.append_nil, List.append_assoc]
    exact List.Perm.append_left _ List.perm_append_comm
/-- PATH[k] = e -/
theorem ws_setP {k : Int} {y0 : D} (e : ρ[i]? = some (.cl d)) (hv : EvC K te ρ x) (hp : EvL K to ρ i π) (hd : D.at π d = some (.lst l)) (hb : EvD K tb ρ (.int k)) (hj : ixN l.length k = some j) (h0 : l[j]? = some y0) (h : P.nx (ρ.set i (.cl (D.put π d (.lst (l.set j x)))))) :
    Ws K E (tAsg te (gSub to tb rSetL)) ρ P := fun M T0 H T σ Dn en kk =>
  hv M T0 H T σ [] _ en fun w Lw H0 T00 s0 t0 e0 iw => hp M T0 H0 T00 σ _ _ e0 fun u H1 T1 s1 t1 e1 ⟨v, n1, n2⟩ => hb M T0 H1 T1 σ _ _ e1 fun z H2 T2 s2 t2 e2 iz => by
    obtain ⟨v2, u2, Ls2, L02, g1, ⟨a2, vs2, Lt2, eu2, eL2, hl2⟩, g3, g4, g5⟩ := e2.spot e hd
    rw [n1] at g1
    cases g1
    have ea := Nav.eq (n2.up t2) g3
    subst ea
    subst eu2
    subst eL2
    have hT2 : T2 a2 = some (.lst vs2) := g4.here rfl (a2, .lst vs2) List.mem_cons_self
    obtain ⟨w0, Lo, L1, L2, q1, q2, q3, q4⟩ := hl2.part h0
    refine ⟨a2, vs2, k, j, rfl, iz, hT2, by rw [hl2.len]; exact hj, kk.nx _ σ H2 _ h (s0.trans (s1.trans s2)) ?_⟩
    refine g5 H2 _ [] (.lst (l.set j x)) ((a2, .lst (vs2.set j w)) :: (L1 ++ (Lw ++ L2))) (Same.refl _) ?_ ⟨a2, _, _, rfl, rfl, q4 H2 x w Lw (Same.refl _) (iw.up (s1.trans s2))⟩
    have g6 := EnX.write (o' := .lst (vs2.set j w)) g4
    subst q3
    have sb : List.Sublist ((a2, HO.lst (vs2.set j w)) :: ((L1 ++ L2) ++ (L02 ++ (Lw ++ [])))) (((a2, HO.lst (vs2.set j w)) :: (L1 ++ (Lo ++ L2))) ++ (L02 ++ (Lw ++ []))) := by
      refine List.Sublist.cons_cons _ ?_
      exact (((List.Sublist.refl _).append (List.sublist_append_right _ _))).append (List.Sublist.refl _)
    refine (g6.sub sb).perm (List.Perm.cons _ ?_)
    show List.Perm ((L1 ++ L2) ++ (L02 ++ (Lw ++ []))) ((L1 ++ (Lw ++ L2)) ++ (L02 ++ []))
    have e1 : (L1 ++ L2) ++ (L02 ++ (Lw ++ [])) = L1 ++ ((L2 ++ L02) ++ Lw) := by simp [List.append_assoc]
    have e2 : (L1 ++ (Lw ++ L2)) ++ (L02 ++ []) = L1 ++ (Lw ++ (L2 ++ L02)) := by simp [List.append_assoc]
    rw [e1, e2]
    exact List.Perm.append_left _ List.perm_append_comm
end
/-! ### fields, methods, making -/
section
variable {K : PySem.W.Frag} {E : L2.WX} {XE' : XK} {ρ : Rho} {P : Pst} {M X : Op} {T0 H H' T T' : Hp} {σ : L2.St} {te ta tb to : TE} {t u : TS} {d s x y z : D} {l : List D} {ds : List D} {tr : TA} {i j : Nat} {C : Addr} {ns : List Str} {f : Str}
theorem is_fld {v : V} {dd : D} (h : Is K H (.ins C ns l) v) (hj : fldAt ns f = some j) (hd : l[j]? = some dd) : ∃ a dx fs w, v = .ref a ∧ H a = some (.ins C dx fs) ∧ fs.lookup f = some w ∧ Is K H dd w := by
  obtain ⟨a, dx, vs, rfl, h1, h2⟩ := h
  obtain ⟨w, e1, e2⟩ := h2.get hd
  exact ⟨a, dx, _, w, rfl, h1, (fld_look hj e1).1, e2⟩
theorem ev_fld (ha : EvD K ta ρ (.ins C ns l)) (hj : fldAt ns f = some j) (hd : l[j]? = some d) (c : Cls K C) (n : NoAttr K C f) : EvD K (tFld K ta f) ρ d := fun M T0 H T σ X Q h q =>
  ha M T0 H T σ X _ h fun v H1 T1 s1 t1 e1 i1 => by
    obtain ⟨a, dx, fs, w, rfl, g1, g2, g3⟩ := is_fld i1 hj hd
    exact ⟨a, C, dx, fs, w, rfl, e1.same _ _ g1, c, n, g2, q w H1 T1 s1 t1 e1 g3⟩
theorem en_fld (ha : EvN K ta ρ (.ins C ns l)) (hj : fldAt ns f = some j) (hd : l[j]? = some d) (c : Cls K C) (n : NoAttr K C f) : EvN K (tFld K ta f) ρ d := fun M T0 H T σ X Q h q =>
  ha M T0 H T σ X _ h fun v H1 T1 s1 t1 e1 i1 => by
    obtain ⟨a, dx, fs, w, rfl, g1, g2, g3⟩ := is_fld i1 hj hd
    exact ⟨a, C, dx, fs, w, rfl, g1, c, n, g2, q w H1 T1 s1 t1 e1 g3⟩
theorem putF_zip : ∀ {ns : List Str} {vs : List V} {f : Str} {w : V}, ns.length = vs.length → f ∉ ns → putF f w (ns.zip vs) = (ns ++ [f]).zip (vs ++ [w])
  | [], [], f, w, _, _ => rfl
  | n :: ns, v :: vs, f, w, h, hn => by
    have h1 : ¬ n = f := fun e => hn (by simp [e])
    have ih := putF_zip (ns := ns) (vs := vs) (f := f) (w := w) (by simpa using h) (fun q => hn (List.mem_cons_of_mem _ q))
    show putF f w ((n, v) :: ns.zip vs) = (n, v) :: (ns ++ [f]).zip (vs ++ [w])
    rw [← ih]
    exact if_neg h1
  | [], v :: vs, _, _, h, _ => by simp at h
  | n :: ns, [], _, _, h, _ => by simp at h
/-- x.f of an instance that is being made -/
theorem el_self {a : Addr} (e : ρ[i]? = some (.cl (.slf a C ns l))) (hj : fldAt ns f = some j) (hl0 : j < l.length) (c : Cls K C) (n : NoAttr K C f) : EvL K (tFld K (tVar i) f) ρ i [j] := fun M T0 H T σ X Q h q => by
  obtain ⟨v, u, Ls, L0, h1, ⟨eu, dx, vs, Lt, eL, hl⟩, h3, h4, _⟩ := h.spot (π := []) e rfl
  have ev : v = u := h3
  subst ev
  subst eu
  have hT : T a = some (.ins C dx (ns.zip vs)) := h4.here rfl (a, .ins C dx (ns.zip vs)) (by rw [eL]; exact List.mem_cons_self)
  obtain ⟨z, hz⟩ := get_some (l := vs) (i := j) (by rw [hl.len]; exact hl0)
  obtain ⟨g1, m, g2⟩ := fld_look hj hz
  exact ⟨.ref a, h1, a, C, dx, _, z, rfl, hT, c, n, g1, q z H T (Same.refl _) (Same.refl _) h ⟨_, h1, a, z, rfl, .inr (.inl ⟨C, dx, _, m, hT, g2⟩), rfl⟩⟩
/-- x.f = e, x an instance that is being made, without f -/
theorem ws_fld {a : Addr} (e : ρ[i]? = some (.cl (.slf a C ns l))) (hv : EvC K te ρ x) (hn : ns.length = l.length) (hf : f ∉ ns) (hz : ns.length < 1000) (c : Cls K C) (n : NoAttr K C f) (h : P.nx (ρ.set i (.cl (.slf a C (ns ++ [f]) (l ++ [x]))))) :
    Ws K E (sFld K (tVar i) te f) ρ P := fun M T0 H T σ Dn en kk =>
  hv M T0 H T σ [] _ en fun w Lw H1 T1 s1 t1 e1 iw => by
    obtain ⟨v, u, Ls, L0, h1, ⟨eu, dx, vs, Lt, eL, hl⟩, h3, h4, h5⟩ := e1.spot (π := []) e rfl
    have ev : v = u := h3
    subst ev
    subst eu
    subst eL
    have hT : T1 a = some (.ins C dx (ns.zip vs)) := h4.here rfl (a, .ins C dx (ns.zip vs)) List.mem_cons_self
    have hlv : ns.length = vs.length := by rw [hn, hl.len]
    refine ⟨.ref a, h1, a, C, dx, _, rfl, hT, c, n, by rw [List.length_zip]; exact Nat.lt_of_le_of_lt (Nat.min_le_left _ _) hz, kk.nx _ σ H1 _ h s1 ?_⟩
    rw [putF_zip hlv hf]
    refine h5 H1 _ [] (.slf a C (ns ++ [f]) (l ++ [x])) ((a, .ins C dx ((ns ++ [f]).zip (vs ++ [w]))) :: (dx, .own a) :: (Lt ++ Lw)) (Same.refl _) ?_ ⟨rfl, dx, _, _, rfl, hl.app (.one iw)⟩
    have g6 := EnX.write (o' := .ins C dx ((ns ++ [f]).zip (vs ++ [w]))) h4
    refine g6.perm (List.Perm.cons _ (List.Perm.cons _ ?_))
    show List.Perm (Lt ++ (L0 ++ (Lw ++ []))) ((Lt ++ Lw) ++ (L0 ++ []))
    rw [List.append_nil, List.append_nil, List.append_assoc]
    exact List.Perm.append_left _ List.perm_append_comm
/-! methods: the instance is the first argument -/
theorem look_none {ns : List Str} {vs : List V} {m : Str} (h : m ∉ ns) : (ns.zip vs).lookup m = none := by
  rw [List.lookup_eq_none_iff]
  intro p hp
  have := (List.of_mem_zip (show (p.1, p.2) ∈ ns.zip vs from hp)).1
  simpa using fun e : m = p.1 => h (e ▸ this)
theorem ev_meth {m : Str} {P : PrD} {Ex : XK} (ha : EvD K ta ρ (.ins C ns l)) (hm : m ∉ ns) (hr : EvA K tr ρ ds) (hp : P (.ins C ns l :: ds) (fun s => s = .im z) (fun _ => False)) : EvD K (tMeth C m (spD K P) [] Ex ta tr) ρ z := fun M T0 H T σ X Q e q =>
  ha M T0 H T σ X _ e fun v H0 T0' s0 t0 e0 i0 => by
    obtain ⟨a, dx, us, rfl, g1, g2⟩ := i0
    refine ⟨a, dx, _, rfl, e0.same _ _ g1, look_none hm, hr M T0 H0 T0' σ X _ e0 fun vs H1 T1 s1 t1 e1 i1 => ?_⟩
    obtain ⟨L, r, o, f⟩ := e1.ex
    show spD K P (.ref a :: (vs ++ [])) T1 Q Ex
    rw [List.append_nil]
    refine ⟨_, H1, .ins C ns l :: ds, _, _, o, .cons ((show Is K H0 (.ins C ns l) (.ref a) from ⟨a, dx, us, rfl, g1, g2⟩).up s1) i1, hp, fun s v H' T' hs s' t' hr => ?_, fun _ _ _ _ _ _ h => h.elim⟩
    subst hs
    obtain ⟨e2, iz⟩ := e1.ret_im r f s' t' hr
    exact q v H' T' (s0.trans (s1.trans s')) (t0.trans (t1.trans t')) e2 iz
theorem ec_meth {m : Str} {P : PrD} {Ex : XK} (ha : EvD K ta ρ (.ins C ns l)) (hm : m ∉ ns) (hr : EvA K tr ρ ds) (hp : P (.ins C ns l :: ds) (fun s => s = .cl z) (fun _ => False)) : EvC K (tMeth C m (spD K P) [] Ex ta tr) ρ z := fun M T0 H T σ X Q e q =>
  ha M T0 H T σ X _ e fun v H0 T0' s0 t0 e0 i0 => by
    obtain ⟨a, dx, us, rfl, g1, g2⟩ := i0
    refine ⟨a, dx, _, rfl, e0.same _ _ g1, look_none hm, hr M T0 H0 T0' σ X _ e0 fun vs H1 T1 s1 t1 e1 i1 => ?_⟩
    obtain ⟨L, r, o, f⟩ := e1.ex
    show spD K P (.ref a :: (vs ++ [])) T1 Q Ex
    rw [List.append_nil]
    refine ⟨_, H1, .ins C ns l :: ds, _, _, o, .cons ((show Is K H0 (.ins C ns l) (.ref a) from ⟨a, dx, us, rfl, g1, g2⟩).up s1) i1, hp, fun s v H' T' hs s' t' hr => ?_, fun _ _ _ _ _ _ h => h.elim⟩
    subst hs
    obtain ⟨Lc, e2, iz⟩ := e1.ret_cl r f s' t' hr
    exact q v Lc H' T' (s0.trans (s1.trans s')) (t0.trans (t1.trans t')) e2 iz
/-- the promise of an __init__: R says what instance is made -/
def spMk (K : PySem.W.Frag) (C : Addr) (P : List D → (D → Prop) → (Exn → Prop) → Prop) : Sp := fun vs T Q Ex => ∃ (x dx : Addr) (us : List V) (M : Op) (H T0 : Hp) (ds : List D) (R : D → Prop) (Z : Exn → Prop), vs = .ref x :: us ∧ Opn H T ((x, .ins C dx []) :: (dx, .own x) :: M) ∧ IsL K H ds us ∧ T0 x = none ∧ T0 dx = none ∧ Same T0 T ∧ P ds R Z ∧
  (∀ d Lc H' T', R d → Same H H' → Same T0 T' → IsC K H' d (.ref x) Lc → Opn H' T' (Lc ++ M) → (∀ p ∈ Lc, T0 p.1 = none) → Q .non T') ∧ ∀ c ns es od H' T', Z (c, ns, es) → Same H H' → Same T0 T' → Opn H' T' M → IsX K H' od ns es → Ex c od T'
theorem ec_make {P : List D → (D → Prop) → (Exn → Prop) → Prop} {Ex : XK} (hr : EvA K tr ρ ds) (hp : P ds (fun d => d = z) (fun _ => False)) : EvC K (tMake C (spMk K C P) [] Ex tr) ρ z := fun M T0 H T σ X Q e q =>
  hr M T0 H T σ X _ e fun vs H1 T1 s1 t1 e1 i1 => fun x dx hx hdx hne => by
    obtain ⟨L, r, o, f⟩ := e1.ex
    show spMk K C P (.ref x :: (vs ++ [])) _ _ Ex
    rw [List.append_nil]
    have o1 := o.opened (o := .own x) hdx
    have hx1 : (upd T1 dx (.own x)) x = none := by rw [upd_ne (Ne.symm hne)]; exact hx
    have o2 := o1.opened (o := .ins C dx []) hx1
    refine ⟨x, dx, vs, _, H1, T1, ds, _, _, rfl, o2, i1, hx, hdx, (same_new hdx).trans (same_new hx1), hp, fun d Lc H' T' hd s' t' ic o' f' => ?_, fun _ _ _ _ _ _ h => h.elim⟩
    subst hd
    refine ⟨rfl, q (.ref x) Lc H' T' (s1.trans s') (t1.trans t') ⟨⟨L, r.up s', ?_, fun y hy => ?_⟩, e1.t0.trans t'⟩ ic⟩
    · rw [List.append_assoc]
      exact o'
    · rw [List.append_assoc] at hy
      rcases List.mem_append.mp hy with hy | hy
      · exact e1.t0.free (f' y hy)
      · exact f y hy
/-- an __init__'s body -/
theorem read_init {P : List D → (D → Prop) → (Exn → Prop) → Prop} {vs : List V} {Q : VK} {Ex : XK} {N : List Str} (h : spMk K C P vs T Q Ex)
    (hw : ∀ a ds R Z, P ds R Z → Ws K (upX Ex) t (.cl (.slf a C [] []) :: (ds.map .im ++ List.replicate (N.length - (ds.length + 1)) .no)) { nx := fun ρ' => ∃ ns l, ρ'[0]? = some (.cl (.slf a C ns l)) ∧ R (.ins C ns l), ex := fun _ => Z }) :
    t { nx := fun _ H' => Q .non H', rt := Q } (L2.start N vs) T := by
  obtain ⟨x, dx, us, M, H, T0, ds, R, Z, rfl, o, hi, hx, hdx, hs, p, k1, k2⟩ := h
  have r := EnR.start hi (N.length - (ds.length + 1))
  have e : L2.start N (.ref x :: us) = some (.ref x) :: (us.map some ++ List.replicate (N.length - (ds.length + 1)) none) := by
    unfold L2.start
    rw [List.length_cons, hi.len]
    rfl
  rw [e]
  have ic : IsC K H (.slf x C [] []) (.ref x) [(x, .ins C dx []), (dx, .own x)] := ⟨rfl, dx, [], [], rfl, rfl, rfl⟩
  have r2 := EnR.cl ic r
  refine hw x ds R Z p M T0 H T _ _ ⟨⟨_, r2, o, fun y hy => ?_⟩, hs⟩ ⟨fun ρ' σ' H' T' ⟨ns, l, q1, q2⟩ s' e' => ?_, fun _ _ _ _ q => q.elim, fun _ _ _ _ q => q.elim, fun _ _ _ _ q => q.elim, fun ρ' σ' c ns es od H' T' q s' e' hx => k2 c ns es od H' T' q s' e'.t0 e'.frame hx⟩
  · rw [List.append_nil] at hy
    have hy : y ∈ [(x, HO.ins C dx []), (dx, HO.own x)] := by simpa using hy
    rcases List.mem_cons.mp hy with rfl | hy
    · exact hx
    · have hy := List.mem_singleton.mp hy
      subst hy
      exact hdx
  · obtain ⟨x', Ls, h1, h2, h3⟩ := e'.take q1
    obtain ⟨v, rfl, hc⟩ := h2.cl1
    obtain ⟨rfl, dx', vs', Lt, rfl, hl⟩ := hc
    obtain ⟨g1, g2⟩ := EnX.give h3
    exact k1 (.ins C ns l) _ H' T' q2 s' e'.t0 ⟨x, dx', vs', Lt, rfl, rfl, hl⟩ g1 g2
end
end FS
set_option Elab.async false
set_option linter.all false
set_option maxRecDepth 100000
set_option maxHeartbeats 4000000
namespace FS
open PySem PySem.Spec PyProof.Rows L2

/-- a statement that is never reached -/
theorem ps_no {X : Cx} {st : Stmt} : PS X st tNo := ⟨fun pins s σ H D I h => h.elim⟩

/-! ### more built-ins -/
theorem vals_of_get : ∀ {xs : List V} {us : List Value}, xs.length = us.length → (∀ (i : Nat) (x : V) (u : Value), xs[i]? = some x → us[i]? = some u → RelV x u) → Vals xs us
  | [], [], _, _ => .nil
  | x :: xs, u :: us, h, q => .cons (q 0 x u rfl rfl) (vals_of_get (by simpa using h) fun i y v h1 h2 => q (i + 1) y v (by simpa using h1) (by simpa using h2))
  | [], _ :: _, h, _ => by simp at h
  | _ :: _, [], h, _ => by simp at h
section
variable {X : Cx}
def rRng1 : List V → Hp → VK → Prop := fun vs H Q => ∃ j : Int, vs = [V.int j] ∧ ∀ p, H p = none → Q (.ref p) (upd H p (.rng 0 j))
theorem cRng1 : CallR X (.type "range") rRng1 := by
  intro pins s σ H vs us Q I r h
  obtain ⟨j, rfl, q⟩ := h
  obtain ⟨u, rfl, t, rfl⟩ := vals1 r
  refine call_range_1 ⟨.ref s.heap.objs.size, upd H s.heap.objs.size (.rng 0 j), I.laid (t' := s.toks + 1 + 1) (fun b o e => Heap.get?_push_of_some _ e) (Nat.le_refl _) ?_, rfl, q _ (I.hok.fresh (Nat.le_refl _))⟩
  exact ⟨s.toks, t, s.toks + 1, Heap.get?_push_size _ rfl⟩
def rngV (n : Nat) : List V := (List.range n).map fun k : Nat => V.int (0 + (k : Int))
def rListRng : List V → Hp → VK → Prop := fun xs H Q => ∃ (p : Addr) (j : Int), xs = [.ref p] ∧ H p = some (.rng 0 j) ∧ 0 ≤ j ∧ j ≤ 100000 ∧ ∀ l, H l = none → Q (.ref l) (upd H l (.lst (rngV j.toNat)))
theorem rng_vals {n : Nat} {acc : Array Value} (h : ItemsOf (fun i v => ∃ t, v = .int (0 + i * 1) t) acc n) : Vals (rngV n) acc.toList := by
  obtain ⟨h1, h2⟩ := h
  refine vals_of_get (by rw [rngV, List.length_map, List.length_range, Array.length_toList, h1]) fun i x u hx hu => ?_
  obtain ⟨t, rfl⟩ := h2 i u (by simpa using hu)
  rw [rngV, List.getElem?_map] at hx
  obtain ⟨k, hk, rfl⟩ := Option.map_eq_some_iff.mp hx
  have : k = i := by
    have hi : i < n := by
      have := (List.getElem?_eq_some_iff.mp hk).1
      rwa [List.length_range] at this
    rw [List.getElem?_range hi] at hk
    exact (Option.some.inj hk).symm
  subst this
  refine ⟨t, ?_⟩
  rw [Int.mul_one]
theorem cListRng (hc : X.A.handled = none) : CallR X (.type "list") rListRng := by
  intro pins s σ H xs us Q I r h
  obtain ⟨p, j, rfl, hp, h0, h1, q⟩ := h
  obtain ⟨u, rfl, rx⟩ := vals1 r
  cases rx
  obtain ⟨t, v, w, hr⟩ := (show ObjOk X.prog X.w H s.heap p (.rng 0 j) from I.hok p _ hp)
  have hn : Builtin.Range.rangeSize 0 j 1 = ((j.toNat : Nat) : Int) := by rw [rangeSize_one]; split <;> omega
  refine call_list_range hc hr (small_one (by decide) (by decide) (by omega) (by omega)) hn (by omega) fun h' tk acc' c' kp e it => ?_
  refine ⟨.ref s.heap.objs.size, _, I.laid (t' := tk) kp (Nat.le_refl _) (show ObjOk X.prog X.w _ h' _ (.lst (rngV j.toNat)) from ⟨?_, acc'.toList, c', rng_vals it, by simpa using e⟩), rfl, q _ (I.hok.fresh (Nat.le_refl _))⟩
  rw [rngV, List.length_map, List.length_range]
  have : (100000 : Nat) ≤ sizeLine := by decide
  omega
end
section
variable {K : PySem.W.Frag} {E : L2.WX} {ρ : Rho} {P : Pst} {te ta tb to : TE} {tz : TS} {tt : TT} {d s x y z : D} {l l' : List D} {ds : List D} {tr : TA} {i j : Nat}
theorem isL_rng {H : Hp} (n : Nat) : IsL K H (rng 0 n) (rngV n) := by
  unfold rng rngV
  generalize List.range n = r
  induction r with
  | nil => exact (rfl : [] = [])
  | cons a r ih => exact ⟨_, _, rfl, rfl, ih⟩
/-- list(range(n)) -/
theorem evo_rng {n : Int} (h : EvA K tr ρ [.int n]) (h0 : 0 ≤ n) (h1 : n ≤ 100000) : EvO K (tCB rListRng (tCons (tCB rRng1 tr) tNil)) ρ (rng 0 n.toNat) := fun M T0 H T σ X Q e q =>
  h M T0 H T σ X _ e fun vs H1 T1 s1 t1 e1 i1 => by
    obtain ⟨v, rfl, hv⟩ := isL_one i1
    refine ⟨n, by rw [show v = V.int n from hv], fun p hp => ?_⟩
    obtain ⟨s2, e2⟩ := e1.new (o := .rng 0 n) hp
    refine ⟨p, n, rfl, upd_same, h0, h1, fun p2 hp2 => ?_⟩
    exact q p2 _ _ _ (s1.trans s2) (t1.trans ((same_new hp).trans (same_new hp2))) (e2.opened hp2) (isL_rng _)
/-! sums and the like -/
theorem seq_of {H T : Hp} {v : V} {ns : List Int} (h : Is K H (.lst (ns.map .int)) v) (s : Same H T) : ∃ a, v = .ref a ∧ SqL K T a (ns.map V.int) := by
  obtain ⟨a, vs, rfl, h1, h2⟩ := h
  rw [isL_ints_inv h2] at h1
  exact ⟨a, rfl, .inl (.inl (s _ _ h1))⟩
theorem rc_sum {ns : List Int} : RcD K (rSum K) [.lst (ns.map .int)] (.int ns.sum) := fun H T vs Q s h q => by
  obtain ⟨v, rfl, hv⟩ := isL_one h
  obtain ⟨a, rfl, hq⟩ := seq_of hv s
  exact ⟨a, ns, rfl, hq, q _ rfl⟩
theorem rc_max {ns : List Int} {m : Int} (hm : m ∈ ns) (h0 : ∀ y ∈ ns, y ≤ m) : RcD K (rMax K) [.lst (ns.map .int)] (.int m) := fun H T vs Q s h q => by
  obtain ⟨v, rfl, hv⟩ := isL_one h
  obtain ⟨a, rfl, hq⟩ := seq_of hv s
  refine ⟨a, ns, rfl, hq, List.length_pos_of_mem hm, fun k hk h1 => ?_⟩
  have : k = m := Int.le_antisymm (h0 k hk) (h1 m hm)
  rw [this]
  exact q _ rfl
theorem rc_min {ns : List Int} {m : Int} (hm : m ∈ ns) (h0 : ∀ y ∈ ns, m ≤ y) : RcD K (rMin K) [.lst (ns.map .int)] (.int m) := fun H T vs Q s h q => by
  obtain ⟨v, rfl, hv⟩ := isL_one h
  obtain ⟨a, rfl, hq⟩ := seq_of hv s
  refine ⟨a, ns, rfl, hq, List.length_pos_of_mem hm, fun k hk h1 => ?_⟩
  have : k = m := Int.le_antisymm (h1 m hm) (h0 k hk)
  rw [this]
  exact q _ rfl
theorem sorted_uniq : ∀ {l l' : List Int}, l'.Perm l → l'.Pairwise (· ≤ ·) → l.Pairwise (· ≤ ·) → l' = l := fun h h1 h2 => List.Perm.eq_of_pairwise (fun a b _ _ x y => Int.le_antisymm x y) h1 h2 h
theorem rco_sorted {ns ns' : List Int} (hp : ns'.Perm ns) (hs : ns'.Pairwise (· ≤ ·)) : RcO K (rSortedI K) [.lst (ns.map .int)] (ns'.map .int) := fun H T vs Q s h q => by
  obtain ⟨v, rfl, hv⟩ := isL_one h
  obtain ⟨a, rfl, hq⟩ := seq_of hv s
  refine ⟨a, ns, rfl, hq, fun zs p h1 h2 hn => ?_⟩
  have : zs = ns' := sorted_uniq (h1.trans hp.symm) h2 hs
  rw [this]
  exact q p _ hn (isL_ints _)
theorem is_bls {H : Hp} : ∀ {bs : List Bool} {vs : List V}, IsL K H (bs.map .bl) vs → vs = bs.map V.bl
  | [], _, h => h
  | n :: r, _, ⟨v, q, e, h1, h2⟩ => by rw [e, show v = V.bl n from h1, is_bls h2] <;> rfl
theorem rc_any {bs : List Bool} : RcD K (rAny K) [.lst (bs.map .bl)] (.bl (bs.any id)) := fun H T vs Q s h q => by
  obtain ⟨v, rfl, a, us, rfl, h1, h2⟩ := isL_one h
  rw [is_bls h2] at h1
  exact ⟨a, bs, rfl, .inl (.inl (s _ _ h1)), q _ rfl⟩
theorem rc_all {bs : List Bool} : RcD K (rAll K) [.lst (bs.map .bl)] (.bl (bs.all id)) := fun H T vs Q s h q => by
  obtain ⟨v, rfl, a, us, rfl, h1, h2⟩ := isL_one h
  rw [is_bls h2] at h1
  exact ⟨a, bs, rfl, .inl (.inl (s _ _ h1)), q _ rfl⟩
theorem inV_int {x : Int} : ∀ {ns : List Int}, inV (.int x) (ns.map V.int) = decide (x ∈ ns)
  | [] => by simp [inV]
  | n :: r => by
    have ih := inV_int (x := x) (ns := r)
    unfold inV at ih ⊢
    rw [List.map_cons, List.any_cons, ih]
    by_cases h : n = x
    · subst h
      simp [eqV]
    · have h' : ¬ x = n := fun e => h e.symm
      have : eqV (.int n) (.int x) = false := by simp [eqV, h]
      rw [this]
      simp [h']
theorem flat_ints {ns : List Int} : (ns.map V.int).all flatV = true := by
  induction ns with
  | nil => rfl
  | cons a r ih => rw [List.map_cons, List.all_cons, ih] <;> rfl
theorem rv_in {x : Int} {ns : List Int} : RvD K (rIn K false) (.int x) (.lst (ns.map .int)) (.bl (decide (x ∈ ns))) := fun H T vx vy Q s h1 h2 q => by
  obtain ⟨a, rfl, hq⟩ := seq_of h2 s
  refine ⟨a, _, rfl, .inl hq, by rw [show vx = V.int x from h1] <;> rfl, flat_ints, ?_⟩
  rw [show vx = V.int x from h1, inV_int]
  exact q _ rfl
theorem rv_notin {x : Int} {ns : List Int} : RvD K (rIn K true) (.int x) (.lst (ns.map .int)) (.bl (!decide (x ∈ ns))) := fun H T vx vy Q s h1 h2 q => by
  obtain ⟨a, rfl, hq⟩ := seq_of h2 s
  refine ⟨a, _, rfl, .inl hq, by rw [show vx = V.int x from h1] <;> rfl, flat_ints, ?_⟩
  rw [show vx = V.int x from h1, inV_int]
  exact q _ rfl
/-! extend -/
theorem ws_ext (e : ρ[i]? = some (.ow l)) (hv : EvD K te ρ (.lst l')) (hz : l.length + l'.length ≤ 100000) (h : P.nx (ρ.set i (.ow (l ++ l')))) : Ws K E (tDrop (tBM K "list" rExtend (tVar i) (tCons te tNil))) ρ P := fun M T0 H T σ Dn en k => by
  obtain ⟨p, vs, h1, h2, h4, _⟩ := en.own e
  refine ⟨.ref p, h1, .inl ⟨rfl, vs, .inl (.inl h2)⟩, hv M T0 H T σ [] _ en fun v H' T' s t' e' ⟨a, us, ev, g1, g2⟩ => ?_⟩
  subst ev
  obtain ⟨p', vs', q1, q2, q4, q5, _⟩ := e'.own e
  rw [h1] at q1
  cases q1
  exact ⟨p, a, vs', us, rfl, rfl, q2, e'.same _ _ g1, by rw [q4.len, g2.len]; exact Nat.le_trans hz (by decide), k.nx _ _ _ _ h s (q5 _ _ (q4.app g2))⟩
theorem wq_ext (e : ρ[i]? = some (.ow l)) (hv : EvD K te ρ (.lst l')) (hz : l.length + l'.length ≤ 100000) (h : Ws K E tz (ρ.set i (.ow (l ++ l'))) P) : Ws K E (tSeq (tDrop (tBM K "list" rExtend (tVar i) (tCons te tNil))) tz) ρ P := ws_seq (ws_ext e hv hz h)
theorem wq_appP {π : List Nat} (e : ρ[i]? = some (.cl d)) (hp : EvL K to ρ i π) (hd : D.at π d = some (.lst l)) (hv : EvC K te ρ x) (hz : l.length < 100000) (h : Ws K E tz (ρ.set i (.cl (D.put π d (.lst (l ++ [x]))))) P) :
    Ws K E (tSeq (tDrop (tBM K "list" rAppend to (tCons te tNil))) tz) ρ P := ws_seq (ws_appP e hp hd hv hz h)
theorem wq_fld {C a : Addr} {ns : List Str} {f : Str} (e : ρ[i]? = some (.cl (.slf a C ns l))) (hv : EvC K te ρ x) (hn : ns.length = l.length) (hf : f ∉ ns) (hz : ns.length < 1000) (c : Cls K C) (n : NoAttr K C f) (h : Ws K E tz (ρ.set i (.cl (.slf a C (ns ++ [f]) (l ++ [x])))) P) :
    Ws K E (tSeq (sFld K (tVar i) te f) tz) ρ P := ws_seq (ws_fld e hv hn hf hz c n h)

/-! ### dicts with int keys -/
def ik (ks : List Int) : List Key := ks.map .inl
theorem valV_zip : ∀ {ks : List Int} {vs : List V} {x : Int}, ks.length = vs.length → valV ((ik ks).zip vs) (.inl x) = (ks.findIdx? (· == x)).bind (vs[·]?)
  | [], [], x, _ => rfl
  | k :: ks, v :: vs, x, h => by
    have ih := valV_zip (ks := ks) (vs := vs) (x := x) (by simpa using h)
    show valV ((Sum.inl k, v) :: (ik ks).zip vs) (.inl x) = _
    rw [List.findIdx?_cons]
    by_cases e : k = x
    · subst e
      rw [valV_pos rfl]
      simp
    · rw [valV_neg (by simpa using e), ih]
      have : (k == x) = false := by simpa using e
      rw [this]
      simp only [Bool.false_eq_true, if_false]
      cases ks.findIdx? (· == x) <;> rfl
  | [], _ :: _, _, h => by simp at h
  | _ :: _, [], _, h => by simp at h
theorem ec_dnew : EvC K tDNewK ρ (.dic (ik []) []) := fun M T0 H T σ X Q e q => fun p hp => q (.ref p) [(p, .dK [])] H _ (Same.refl _) (same_new hp) (e.opened hp) ⟨p, [], [], rfl, rfl, rfl, rfl⟩
/-- x in d, d open -/
theorem dic_open {M X : Op} {T0 H T : Hp} {σ : L2.St} {ks : List Key} (en : EnX K M T0 H T σ ρ X) (e : ρ[i]? = some (.cl (.dic ks l))) : ∃ a vs Lt L0, σ[i]? = some (some (.ref a)) ∧ T a = some (.dK (ks.zip vs)) ∧ vs.length = l.length ∧ IsCL K H l vs Lt ∧
    EnX K M T0 H T σ (ρ.set i .no) (((a, .dK (ks.zip vs)) :: Lt) ++ (L0 ++ X)) ∧
    ∀ H' T' X' s' Ls', Same H H' → EnX K M T0 H' T' σ (ρ.set i .no) (Ls' ++ (L0 ++ X')) → IsC K H' s' (.ref a) Ls' → EnX K M T0 H' T' σ (ρ.set i (.cl s')) X' := by
  obtain ⟨v, u, Ls, L0, h1, ⟨a, vs, Lt, eu, eL, hl⟩, h3, h4, h5⟩ := en.spot (π := []) e rfl
  have ev : v = u := h3
  subst ev
  subst eu
  subst eL
  exact ⟨a, vs, Lt, L0, h1, h4.here rfl (a, .dK (ks.zip vs)) List.mem_cons_self, hl.len, hl, h4, h5⟩
theorem et_notind {ks : List Int} {xv : Int} (e : ρ[i]? = some (.cl (.dic (ik ks) l))) (hl : ks.length = l.length) (hv : EvD K te ρ (.int xv)) : EvD K (tDNotIn te (tVar i)) ρ (.bl (!decide (xv ∈ ks))) := fun M T0 H T σ X Q en q =>
  hv M T0 H T σ X _ en fun v H1 T1 s1 t1 e1 i1 => by
    obtain ⟨a, vs, Lt, L0, h1, h2, h3, _⟩ := dic_open e1 e
    refine ⟨.ref a, h1, a, valV ((ik ks).zip vs) (.inl xv), rfl, ?_, ?_⟩
    · rw [show v = kV (.inl xv) from i1]
      exact DGet.k h2
    · rw [valV_zip (by omega)]
      have : ((ks.findIdx? (· == xv)).bind (vs[·]?)).isSome = decide (xv ∈ ks) := by
        by_cases hm : xv ∈ ks
        · have hi : ks.findIdx? (· == xv) = some (ks.findIdx (· == xv)) := by
            rw [List.findIdx?_eq_some_iff_findIdx_eq]
            exact ⟨List.findIdx_lt_length_of_exists ⟨xv, hm, by simp⟩, rfl⟩
          have hlt : ks.findIdx (· == xv) < vs.length := by
            have := List.findIdx_lt_length_of_exists (p := (· == xv)) ⟨xv, hm, by simp⟩
            omega
          rw [hi, decide_eq_true hm]
          show (vs[ks.findIdx (· == xv)]?).isSome = true
          rw [List.getElem?_eq_getElem hlt] <;> rfl
        · have hi : ks.findIdx? (· == xv) = none := by
            rw [List.findIdx?_eq_none_iff]
            intro y hy
            simp only [beq_eq_false_iff_ne, ne_eq]
            exact fun z => hm (z ▸ hy)
          rw [hi, decide_eq_false hm] <;> rfl
      rw [this]
      exact q _ H1 T1 s1 t1 e1 rfl
theorem putK_new : ∀ {ks : List Int} {vs : List V} {x : Int} {v : V}, ks.length = vs.length → x ∉ ks → putK ((ik ks).zip vs) (.inl x) v = (ik (ks ++ [x])).zip (vs ++ [v]) := by
  intro ks vs x v h hn
  have ha : (((ik ks).zip vs).any fun kv => decide (kv.1 = (Sum.inl x : Key))) = false := by
    rw [List.any_eq_false]
    intro p hp
    have := (List.of_mem_zip (show (p.1, p.2) ∈ (ik ks).zip vs from hp)).1
    simp only [decide_eq_true_eq]
    intro z
    rw [z] at this
    obtain ⟨y, hy, ey⟩ := List.mem_map.mp this
    cases ey
    exact hn hy
  unfold putK
  rw [ha]
  simp only [Bool.false_eq_true, if_false]
  unfold ik
  rw [List.map_append, List.zip_append (by rw [List.length_map, h])]
  rfl
/-- d[x] = e, x new -/
theorem ws_dput {ks : List Int} {xv : Int} (e : ρ[i]? = some (.cl (.dic (ik ks) l))) (hl : ks.length = l.length) (hz : ks.length < 100000) (hn : xv ∉ ks) (hv : EvD K te ρ d) (hs : d.sc = true) (hx : EvD K tb ρ (.int xv)) (h : P.nx (ρ.set i (.cl (.dic (ik (ks ++ [xv])) (l ++ [d]))))) :
    Ws K E (sDPut (tVar i) tb te) ρ P := fun M T0 H T σ Dn en k =>
  hv M T0 H T σ [] _ en fun v H1 T1 s1 t1 e1 i1 => by
    obtain ⟨a, vs, Lt, L0, h1, _⟩ := dic_open e1 e
    refine ⟨.ref a, h1, hx M T0 H1 T1 σ [] _ e1 fun w H2 T2 s2 t2 e2 i2 => ?_⟩
    obtain ⟨a2, vs2, Lt2, L02, g1, g2, g3, g4, g5, g6⟩ := dic_open e2 e
    rw [h1] at g1
    cases g1
    refine ⟨a, upd T2 a (.dK ((ik (ks ++ [xv])).zip (vs2 ++ [v]))), rfl, ?_, ?_⟩
    · rw [show w = kV (.inl xv) from i2, ← putK_new (by omega) hn]
      refine DPut.k g2 ?_
      have : (100000 : Nat) ≤ sizeLine := by decide
      rw [List.length_zip]
      unfold ik
      rw [List.length_map]
      omega
    · refine k.nx _ σ H2 _ h (s1.trans s2) (g6 H2 _ [] (.dic (ik (ks ++ [xv])) (l ++ [d])) ((a, .dK ((ik (ks ++ [xv])).zip (vs2 ++ [v]))) :: (Lt2 ++ [])) (Same.refl _) ?_ ⟨a, _, _, rfl, rfl, g4.app (.one ((i1.up s2).sc hs))⟩)
      have g7 := EnX.write (o' := .dK ((ik (ks ++ [xv])).zip (vs2 ++ [v]))) g5
      rw [List.append_nil]
      exact g7
/-- d[x], d known -/
theorem ev_dget {ks : List Int} {xv : Int} {jj : Nat} (hd : EvD K ta ρ (.dic (ik ks) l)) (hx : EvD K tb ρ (.int xv)) (hl : ks.length = l.length) (hj : ks.findIdx? (· == xv) = some jj) (hg : l[jj]? = some d) : EvD K (tDGet ta tb) ρ d := fun M T0 H T σ X Q en q =>
  hd M T0 H T σ X _ en fun v H1 T1 s1 t1 e1 ⟨a, vs, ev, g1, g2⟩ => hx M T0 H1 T1 σ X _ e1 fun w H2 T2 s2 t2 e2 i2 => by
    subst ev
    obtain ⟨u, g3, g4⟩ := g2.get hg
    refine ⟨a, u, rfl, ?_, q u H2 T2 (s1.trans s2) (t1.trans t2) e2 (g4.up s2)⟩
    have := DGet.k (k := .inl xv) (e2.same _ _ (s2 _ _ g1))
    rw [valV_zip (by rw [hl, g2.len]), hj] at this
    rw [show w = kV (.inl xv) from i2]
    rw [show (some jj).bind (vs[·]?) = some u from g3] at this
    exact this
end

/-! ### methods and makers that stand -/
structure FnM (P : Program) (w : World) (K : PySem.W.Frag) (mg : Str → Option Value) (base : Heap) (CX : CXT) (k : Nat) (C : Addr) (m : Str) (ps : List Str) (sp : Sp) : Prop where
  ex : ∃ f fd, FnOk P w K mg base CX k f fd ps sp ∧ Meth K C m f ∧ Binds K fd ps []
structure FnI (P : Program) (w : World) (K : PySem.W.Frag) (mg : Str → Option Value) (base : Heap) (CX : CXT) (k : Nat) (C : Addr) (x : Str) (ps : List Str) (sp : Sp) : Prop where
  ex : ∃ f fd, FnOk P w K mg base CX k f fd ps sp ∧ Mk K C f ∧ mg x = some (.ref C) ∧ Binds K fd ps []
section
variable {X : Cx} {CX : CXT} {k : Nat} {sp : Sp} {E : XK} {x m : Str} {o e : Expr} {es : List Expr} {t : TA} {ta : TE} {p apos pos : Pos} {ps : List Str} {C : Addr}
theorem pe_m {pl : Sem Bool} (G : FnM X.prog X.w X.K X.mg X.base CX k C m ps sp) (c : Cls X.K C) (hr : Room k X.A) (hx : Passes CX X E) (he : PE X o ta) (ha : PA X (e :: es) t)
    (hst : starEach (e :: es) X.env = (false, eval e X.env) :: starEach es X.env := by rfl) (hpl : (backTo pos (starEach es X.env)).any (·.1) = false := by rfl)
    (ht : eval (.Call (.Attribute o m apos) (e :: es) [] pos) X.env = (do
      let ov ← eval o X.env
      standAt apos.atName
      let (f, first) ← holding [ov] (getMethod ov m pl)
      callWith pos f first (backTo pos (starEach (e :: es) X.env)) (backToKw pos (keywordEach [] X.env))) := by rfl) : PE X (.Call (.Attribute o m apos) (e :: es) [] pos) (tMeth C m sp [] E ta t) := by
  obtain ⟨f, fd, F, hm, hb⟩ := G.ex
  exact pe_meth he c hm F hr hb .nil hx ha hst hpl ht
theorem pe_m0 {pl : Sem Bool} (G : FnM X.prog X.w X.K X.mg X.base CX k C m ps sp) (c : Cls X.K C) (hr : Room k X.A) (hx : Passes CX X E) (he : PE X o ta)
    (ht : eval (.Call (.Attribute o m apos) [] [] pos) X.env = (do
      let ov ← eval o X.env
      standAt apos.atName
      let (f, first) ← holding [ov] (getMethod ov m pl)
      callWith pos f first (backTo pos (starEach [] X.env)) (backToKw pos (keywordEach [] X.env))) := by rfl) : PE X (.Call (.Attribute o m apos) [] [] pos) (tMeth C m sp [] E ta tNil) := by
  obtain ⟨f, fd, F, hm, hb⟩ := G.ex
  exact pe_meth0 he c hm F hr hb .nil hx ht
theorem pe_mk (G : FnI X.prog X.w X.K X.mg X.base CX k C x ps sp) (hr : Room (k + 1) X.A) (hx : Passes CX X E) (ha : PA X (e :: es) t) (hg : Gl X x := by rfl) (hdb : (x == ("__debug__" : Str)) = false := by decide)
    (he : starEach (e :: es) X.env = (false, eval e X.env) :: starEach es X.env := by rfl) (hpl : (backTo pos (starEach es X.env)).any (·.1) = false := by rfl) : PE X (.Call (.Name x p) (e :: es) [] pos) (tMake C sp [] E t) := by
  obtain ⟨f, fd, F, hm, hC, hb⟩ := G.ex
  exact pe_make hm F hr hg hC hb .nil hx ha hdb he hpl
end
section
variable {P : Program} {w : World} {K : PySem.W.Frag} {mg : Str → Option Value} {base : Heap} {x m qual : Str} {st : Stmt} {N ps : List Str} {k : Nat} {Pr : PrD} {C : Addr}
/-- a method's facts -/
structure Dm (K : PySem.W.Frag) (C : Addr) (m qual : Str) (st : Stmt) (ps : List Str) : Prop where
  ex : ∃ f fd, Fun K m qual st f fd ∧ Meth K C m f ∧ Binds K fd ps []
/-- an __init__'s -/
structure Di (K : PySem.W.Frag) (mg : Str → Option Value) (C : Addr) (x qual : Str) (st : Stmt) (ps : List Str) : Prop where
  ex : ∃ f fd, Fun K "__init__" qual st f fd ∧ Mk K C f ∧ mg x = some (.ref C) ∧ Binds K fd ps []
theorem Dm.ok (F : Dm K C m qual st ps) (S : FnScope N ps (defScope st)) (len : ∀ ds R Z, Pr ds R Z → ds.length = ps.length)
    (hbody : ∀ (f : Addr) (cdv : Value) (A : Around) (outer : List Env) (s : Shared) (H : Hp) (E : XK), Room k (A.deeper (envOfC qual (defScope st) s.heap.objs.size f cdv)) →
      ∃ t, PSs (cxOf CX0 P w K mg base N qual (defScope st) f cdv A outer s H E).nox (defBody st) t ∧ ∀ ds R Z, Pr ds R Z → Ws K (upX E) t (ds.map .im ++ List.replicate (N.length - ds.length) .no) { nx := fun _ => R (.im .non), rt := R, ex := fun _ => Z }) :
    FnM P w K mg base CX0 (k + 1) C m ps (spD K Pr) := by
  obtain ⟨f, fd, F, hm, hb⟩ := F.ex
  refine ⟨f, fd, F.ok S (fun vs H Q E h => len_fn len h) (fun cdv A outer s H vs Q E hr h => ?_), hm, hb⟩
  obtain ⟨t, h1, h2⟩ := hbody f cdv A outer s H E hr
  exact ⟨t, h1, read_fn h h2⟩
theorem len_mk {P : List D → (D → Prop) → (Exn → Prop) → Prop} {n : Nat} (hl : ∀ ds R Z, P ds R Z → ds.length + 1 = n) {vs : List V} {T : Hp} {Q : VK} {E : XK} (h : spMk K C P vs T Q E) : vs.length = n := by
  obtain ⟨x, dx, us, M, H, T0, ds, R, Z, rfl, o, hi, _, _, _, p, _⟩ := h
  rw [List.length_cons, hi.len]
  exact hl ds R Z p
theorem Di.ok {Pm : List D → (D → Prop) → (Exn → Prop) → Prop} (F : Di K mg C x qual st ps) (S : FnScope N ps (defScope st)) (len : ∀ ds R Z, Pm ds R Z → ds.length + 1 = ps.length)
    (hbody : ∀ (f : Addr) (cdv : Value) (A : Around) (outer : List Env) (s : Shared) (H : Hp) (E : XK), Room k (A.deeper (envOfC qual (defScope st) s.heap.objs.size f cdv)) →
      ∃ t, PSs (cxOf CX0 P w K mg base N qual (defScope st) f cdv A outer s H E).nox (defBody st) t ∧ ∀ a ds R Z, Pm ds R Z → Ws K (upX E) t (.cl (.slf a C [] []) :: (ds.map .im ++ List.replicate (N.length - (ds.length + 1)) .no)) { nx := fun ρ' => ∃ ns l, ρ'[0]? = some (.cl (.slf a C ns l)) ∧ R (.ins C ns l), ex := fun _ => Z }) :
    FnI P w K mg base CX0 (k + 1) C x ps (spMk K C Pm) := by
  obtain ⟨f, fd, F, hm, hC, hb⟩ := F.ex
  refine ⟨f, fd, F.ok S (fun vs H Q E h => len_mk len h) (fun cdv A outer s H vs Q E hr h => ?_), hm, hC, hb⟩
  obtain ⟨t, h1, h2⟩ := hbody f cdv A outer s H E hr
  exact ⟨t, h1, read_init h h2⟩
end
end FS
set_option Elab.async false
set_option linter.all false
set_option maxRecDepth 100000
set_option maxHeartbeats 4000000
namespace FS
open PySem PySem.Spec PyProof.Rows L2
/-! ### more short words for derivations -/
section
variable {X : Cx} (K : PySem.W.Frag)
theorem cListRngC (hc : X.calm = true) : CallR X (.type "list") rListRng := fun pins s σ H xs us Q I r h => cListRng (I.ok.hd hc) pins s σ H xs us Q I r h
theorem kSum (hc : X.calm = true) (hK : X.K = K := by rfl) : CallR X (.builtin "sum") (rSum K) := hK ▸ cr_sum hc
theorem kMax (hc : X.calm = true) (hK : X.K = K := by rfl) : CallR X (.builtin "max") (rMax K) := hK ▸ cr_max hc
theorem kMin (hc : X.calm = true) (hK : X.K = K := by rfl) : CallR X (.builtin "min") (rMin K) := hK ▸ cr_min hc
theorem kAny (hc : X.calm = true) (hK : X.K = K := by rfl) : CallR X (.builtin "any") (rAny K) := hK ▸ cr_any hc
theorem kAll (hc : X.calm = true) (hK : X.K = K := by rfl) : CallR X (.builtin "all") (rAll K) := hK ▸ cr_all hc
theorem kSorted (hK : X.K = K := by rfl) : CallR X (.builtin "sorted") (rSortedI K) := hK ▸ cr_sortedI
def rLenD : List V → Hp → VK → Prop := fun xs H Q => ∃ a kvs, xs = [V.ref a] ∧ H a = some (.dK kvs) ∧ Q (.int kvs.length) H
theorem kLenD : CallR X (.builtin "len") rLenD := call_lenD
theorem fl {o : Expr} {f : Str} {pos : Pos} {ta : TE} (he : PE X o ta) (hK : X.K = K := by rfl) (hb : attributeBase o f X.env (eval o X.env) = eval o X.env := by rfl) : PE X (.Attribute o f pos) (tFld K ta f) := hK ▸ pe_fld he hb
theorem fs {o value : Expr} {f : Str} {pos pos' : Pos} {ta tv : TE} (ha : PE X o ta) (hv : PE X value tv) (hK : X.K = K := by rfl) (hs : swapsWith value (some (.Attribute o f pos')) pos.line X.env = pure false := by rfl) : PS X (.Assign [.Attribute o f pos'] value pos) (sFld K ta tv f) := hK ▸ ps_fld ha hv hs
theorem ml_extend {o e : Expr} {to : TE} {ta : TA} {apos cpos : Pos} (ho : PE X o to) (ha : PA X [e] ta) (hK : X.K = K := by rfl) (hbase : attributeBase o "extend" X.env (eval o X.env) = eval o X.env := by rfl)
    (hfew : ((backTo cpos (starEach [e] X.env)).all (fun x => !x.1) && (backToKw cpos (keywordEach [] X.env)).all (fun x => x.1.isSome)
      && decide ([e].length + ([] : List Keyword).length + (if ([] : List Keyword).isEmpty then 0 else 1) < 30)) = true := by rfl)
    (hline : (apos.endLine == cpos.line) = true := by rfl) (hs : starEach [e] X.env = (false, eval e X.env) :: starEach [] X.env := by rfl) (hplain : (backTo cpos (starEach [] X.env)).any (·.1) = false := by rfl) :
    PE X (.Call (.Attribute o "extend" apos) [e] [] cpos) (tBM K "list" rExtend to ta) := hK ▸ pe_bm PySem.F.plainAttrs_list PySem.F.slot_list_extend PySem.F.type_list_extend mt_extend ho ha hbase hfew hline hs hplain
end
section
variable {X : Cx}
/-- a name of the module that is an int -/
theorem gl {x : Str} {i : Int} {pos : Pos} (h : ∃ t, X.mg x = some (.int i t)) (hg : Gl X x := by rfl) (hd : (x == ("__debug__" : Str)) = false := by decide) : PE X (.Name x pos) (tC (.int i)) := by
  obtain ⟨t, h⟩ := h
  exact pe_glob hg h ⟨t, rfl⟩ hd
theorem dput {o i value : Expr} {pos pos' : Pos} {td ty tv : TE} (hu : X.A.units + 64 < cLine) (ho : PE X o td) (hi : PE X i ty) (hv : PE X value tv) (hs : swapsWith value (some (.Subscript o i pos')) pos.line X.env = pure false := by rfl) : PS X (.Assign [.Subscript o i pos'] value pos) (sDPut td ty tv) := ps_dput (by omega) ho hi hv hs
theorem din {o i : Expr} {td ty : TE} (hu : X.A.units + 64 < cLine) (hi : PE X i ty) (ho : PE X o td) : PC X .In i o (tDIn ty td) := pc_din (by omega) hi ho
theorem dnotin {o i : Expr} {td ty : TE} (hu : X.A.units + 64 < cLine) (hi : PE X i ty) (ho : PE X o td) : PC X .NotIn i o (tDNotIn ty td) := pc_dnotin (by omega) hi ho
theorem dget {o i : Expr} {pos : Pos} {td ty : TE} (hu : X.A.units + 64 < cLine) (ho : PE X o td) (hi : PE X i ty) (hs : NoSl i := by exact fun _ _ => rfl) : PE X (.Subscript o i pos) (tDGet td ty) := pe_dget (by omega) ho hi hs
end
section
variable {K : PySem.W.Frag} {ρ : Rho} {i : Nat} {l : List D} {ks : List Key}
theorem ev_lenD (e : ρ[i]? = some (.cl (.dic ks l))) (hl : ks.length = l.length) : EvD K (tCB rLenD (tCons (tVar i) tNil)) ρ (.int (l.length : Int)) := fun M T0 H T σ X Q en q => by
  obtain ⟨a, vs, Lt, L0, h1, h2, h3, _⟩ := dic_open en e
  refine ⟨.ref a, h1, a, _, rfl, h2, q _ H T (Same.refl _) (Same.refl _) en ?_⟩
  show V.int _ = V.int _
  rw [List.length_zip, h3, hl, Nat.min_self]
end
end FS
set_option Elab.async false
set_option linter.all false
set_option maxRecDepth 100000
set_option maxHeartbeats 4000000
set_option exponentiation.threshold 20000
namespace FS
/-! ### drawn numbers -/
def drawsBig : Int → List Int → List Int
  | _, [] => []
  | r, s :: t => r % s :: drawsBig (r / s) t
def drawsLow : Int → Int → List Int → List Int
  | _, _, [] => []
  | seed, k, s :: t => ((((seed * 48271 + 11 * k + 7) % 2147483647) * 69621 + 3 * k + 1) % 2147483629 / 7) % s :: drawsLow ((seed * 48271 + 11 * k + 7) % 2147483647) (k + 1) t
def draws (c : Int) (sizes : List Int) : List Int := if (1000000000000000000 : Int) ≤ c then drawsBig (c - 1000000000000000000) sizes else drawsLow (c % 2147483647) 0 sizes
theorem drawsBig_len : ∀ (s : List Int) (r : Int), (drawsBig r s).length = s.length
  | [], _ => rfl
  | _ :: t, _ => by rw [drawsBig, List.length_cons, List.length_cons, drawsBig_len t]
theorem drawsLow_len : ∀ (s : List Int) (r k : Int), (drawsLow r k s).length = s.length
  | [], _, _ => rfl
  | _ :: t, _, _ => by rw [drawsLow, List.length_cons, List.length_cons, drawsLow_len t]
theorem draws_len (c : Int) (s : List Int) : (draws c s).length = s.length := by
  unfold draws
  split
  · exact drawsBig_len _ _
  · exact drawsLow_len _ _ _
theorem drawsBig_bd : ∀ (s : List Int) (r : Int) (i : Nat), (∀ x ∈ s, 0 < x) → i < s.length → 0 ≤ (drawsBig r s).getD i 0 ∧ (drawsBig r s).getD i 0 < s.getD i 0
  | [], _, _, _, h => by simp at h
  | x :: t, r, 0, hp, _ => by
    have := hp x List.mem_cons_self
    exact ⟨Int.emod_nonneg _ (by omega), Int.emod_lt_of_pos _ this⟩
  | x :: t, r, i + 1, hp, h => by
    have := drawsBig_bd t (r / x) i (fun y hy => hp y (List.mem_cons_of_mem _ hy)) (by simpa using h)
    simpa [drawsBig] using this
theorem drawsLow_bd : ∀ (s : List Int) (r k : Int) (i : Nat), (∀ x ∈ s, 0 < x) → i < s.length → 0 ≤ (drawsLow r k s).getD i 0 ∧ (drawsLow r k s).getD i 0 < s.getD i 0
  | [], _, _, _, _, h => by simp at h
  | x :: t, r, k, 0, hp, _ => by
    have := hp x List.mem_cons_self
    exact ⟨Int.emod_nonneg _ (by omega), Int.emod_lt_of_pos _ this⟩
  | x :: t, r, k, i + 1, hp, h => by
    have := drawsLow_bd t ((r * 48271 + 11 * k + 7) % 2147483647) (k + 1) i (fun y hy => hp y (List.mem_cons_of_mem _ hy)) (by simpa using h)
    simpa [drawsLow] using this
theorem draws_bd (c : Int) (s : List Int) (i : Nat) (hp : ∀ x ∈ s, 0 < x) (h : i < s.length) : 0 ≤ (draws c s).getD i 0 ∧ (draws c s).getD i 0 < s.getD i 0 := by
  unfold draws
  split
  · exact drawsBig_bd _ _ _ hp h
  · exact drawsLow_bd _ _ _ _ hp h

/-! ### Euclid's turns: x, y behind i turns -/
structure Eu (a b x y i : Nat) : Prop where
  g : Nat.gcd x y = Nat.gcd a b
  z : i = 0 → x = a ∧ y = b
  s : 1 ≤ i → y < x ∨ (x = 0 ∧ y = 0 ∧ b = 0) ∨ y = 0
  p : 1 ≤ i → x * y * 2 ^ (i - 1) ≤ b * b
theorem Eu.start (a b : Nat) : Eu a b a b 0 := ⟨rfl, fun _ => ⟨rfl, rfl⟩, fun h => by omega, fun h => by omega⟩
theorem Eu.turn {a b x y i : Nat} (h : Eu a b x y i) (hy : y ≠ 0) : Eu a b y (x % y) (i + 1) := by
  refine ⟨?_, fun h => by omega, fun _ => .inl (Nat.mod_lt _ (by omega)), fun _ => ?_⟩
  · rw [← h.g, Nat.gcd_comm x y, Nat.gcd_rec y x, Nat.gcd_comm]
  · by_cases hi : i = 0
    · obtain ⟨rfl, rfl⟩ := h.z hi
      subst hi
      have : x % y ≤ y := Nat.le_of_lt (Nat.mod_lt _ (by omega))
      show y * (x % y) * 2 ^ 0 ≤ y * y
      rw [Nat.pow_zero, Nat.mul_one]
      exact Nat.mul_le_mul_left _ this
    · have hp := h.p (by omega)
      have hs : y < x := by
        rcases h.s (by omega) with q | ⟨_, q, _⟩ | q
        · exact q
        · exact absurd q hy
        · exact absurd q hy
      have h2 : 2 * (x % y) ≤ x := by
        have e := Nat.div_add_mod x y
        have h1 : x % y < y := Nat.mod_lt _ (by omega)
        have h3 : 1 ≤ x / y := Nat.div_pos (by omega) (by omega)
        have h4 : y * 1 ≤ y * (x / y) := Nat.mul_le_mul_left y h3
        omega
      have e : i + 1 - 1 = (i - 1) + 1 := by omega
      rw [e, Nat.pow_succ]
      calc y * (x % y) * (2 ^ (i - 1) * 2) = y * (2 * (x % y)) * 2 ^ (i - 1) := by
            rw [Nat.mul_comm (2 ^ (i - 1)) 2, ← Nat.mul_assoc, Nat.mul_assoc y (x % y) 2, Nat.mul_comm (x % y) 2]
        _ ≤ y * x * 2 ^ (i - 1) := Nat.mul_le_mul_right _ (Nat.mul_le_mul_left _ h2)
        _ = x * y * 2 ^ (i - 1) := by rw [Nat.mul_comm y x]
        _ ≤ b * b := hp
theorem Eu.stop {a b x y i : Nat} (h : Eu a b x y i) (hy : y = 0) : x = Nat.gcd a b := by rw [← h.g, hy, Nat.gcd_zero_right]
/-- behind enough turns nothing is left -/
theorem Eu.done {a b x y n k : Nat} (h : Eu a b x y n) (hb : b < 2 ^ k) (hn : 2 * k + 1 ≤ n) : y = 0 := by
  rcases Nat.eq_zero_or_pos y with q | q
  · exact q
  · exfalso
    have hp := h.p (by omega)
    have hx : 1 ≤ x := by
      rcases h.s (by omega) with z | ⟨_, z, _⟩ | z <;> omega
    have h1 : 1 ≤ x * y := Nat.mul_pos hx q
    have h2 : 2 ^ (n - 1) ≤ x * y * 2 ^ (n - 1) := Nat.le_mul_of_pos_left _ h1
    have h3 : b * b < 2 ^ (2 * k) := by
      rw [Nat.two_mul, Nat.pow_add]
      exact Nat.mul_lt_mul'' hb hb
    have h4 : 2 ^ (2 * k) ≤ 2 ^ (n - 1) := Nat.pow_le_pow_right (by decide) (by omega)
    omega

/-! ### numbers -/
abbrev Num := Int × Int
def numD (x : Num) : D := .tup [.int x.1, .int x.2]
def mk (n d : Int) : Num := (n / (Nat.gcd n.natAbs d.natAbs : Nat), d / (Nat.gcd n.natAbs d.natAbs : Nat))
/-- a number of at most k bits above and below -/
structure Good (k : Nat) (x : Num) : Prop where
  pos : 0 < x.2
  up : x.1.natAbs < 2 ^ k
  dn : x.2 < 2 ^ k
  co : Nat.gcd x.1.natAbs x.2.natAbs = 1
theorem gcd_pos' {n d : Int} (h : 0 < d) : 0 < Nat.gcd n.natAbs d.natAbs := Nat.gcd_pos_of_pos_right _ (by omega)
theorem natAbs_div {n : Int} {g : Nat} (hg : 0 < g) (hd : g ∣ n.natAbs) : (n / (g : Int)).natAbs = n.natAbs / g := by
  have : (g : Int) ∣ n := Int.ofNat_dvd_left.mpr hd
  rw [Int.natAbs_ediv_of_dvd this, Int.natAbs_natCast]
theorem mk_good {n d : Int} {k : Nat} (h : 0 < d) (hn : n.natAbs < 2 ^ k) (hd : d < 2 ^ k) : Good k (mk n d) := by
  have g0 := gcd_pos' (n := n) h
  have e1 : (mk n d).1.natAbs = n.natAbs / Nat.gcd n.natAbs d.natAbs := natAbs_div g0 (Nat.gcd_dvd_left _ _)
  have e2 : (mk n d).2.natAbs = d.natAbs / Nat.gcd n.natAbs d.natAbs := natAbs_div g0 (Nat.gcd_dvd_right _ _)
  have hdd : ((Nat.gcd n.natAbs d.natAbs : Nat) : Int) ∣ d := Int.ofNat_dvd_left.mpr (Nat.gcd_dvd_right _ _)
  refine ⟨?_, ?_, ?_, ?_⟩
  · exact Int.ediv_pos_of_pos_of_dvd h (by omega) hdd
  · rw [e1]
    exact Nat.lt_of_le_of_lt (Nat.div_le_self _ _) hn
  · refine Int.lt_of_le_of_lt ?_ hd
    exact Int.ediv_le_self _ (by omega)
  · rw [e1, e2, Nat.gcd_div (Nat.gcd_dvd_left _ _) (Nat.gcd_dvd_right _ _)]
    exact Nat.div_self g0
end FS
set_option Elab.async false
set_option linter.all false
set_option maxRecDepth 100000
set_option maxHeartbeats 4000000
namespace FS
open PySem PySem.Spec PyProof.Rows L2
/-! ### the end -/
section
variable {P : Program} {w : World} {K : PySem.W.Frag} {mg : Str → Option Value} {base h : Heap} {x : Str} {st : Stmt} {f : Addr} {fd : FuncData} {N ps : List Str} {k : Nat} {Pr : PrD}
theorem df_of {oc : Value} {od an : Option Addr} {osl : Array (Option Value)} {kV doc pm cdv ct : Value} (X : K.In h) (G : h.Ns mainGlobals mg) (a : PySem.W.nsIn K mainGlobals x = some (some (.ref f))) (l : K.lookup f = some ⟨oc, od, .func (PySem.W.fnOf x x (defArgs st) (defBody st) (defScope st) .none kV doc pm an cdv ct), osl⟩)
    (c : PySem.W.codeIn K cdv x = true) (k : PySem.W.keepIn K (.ref f) = true) (b : ∀ (kV doc pm : Value) (an : Option Addr) (cdv ct : Value) (us : List Value), us.length = ps.length → bindArgs (PySem.W.fnOf x x (defArgs st) (defBody st) (defScope st) .none kV doc pm an cdv ct) ⟨us, []⟩ = pure (ps.zip us)) : Df K mg x st ps :=
  ⟨f, _, fun_mk l c k, PySem.W.mg_of X G a, (fun_mk l c k).binds b⟩
theorem okD (F : Fun K x x st f fd) (S : FnScope N ps (defScope st)) (len : ∀ ds R Z, Pr ds R Z → ds.length = ps.length)
    (hbody : ∀ (f : Addr) (cdv : Value) (A : Around) (outer : List Env) (s : Shared) (H : Hp) (E : XK), Room k (A.deeper (envOfC x (defScope st) s.heap.objs.size f cdv)) →
      ∃ t, PSs (cxOf CX0 P w K mg base N x (defScope st) f cdv A outer s H E).nox (defBody st) t ∧ ∀ ds R Z, Pr ds R Z → Ws K (upX E) t (ds.map .im ++ List.replicate (N.length - ds.length) .no) { nx := fun _ => R (.im .non), rt := R, ex := fun _ => Z }) :
    FnOk P w K mg base CX0 (k + 1) f fd ps (spD K Pr) :=
  F.ok S (fun vs H Q E h => len_fn len h) fun cdv A outer s H vs Q E hr h => by
    obtain ⟨t, h1, h2⟩ := hbody f cdv A outer s H E hr
    exact ⟨t, h1, read_fn h h2⟩
/-- what is asked of a law -/
def P_law : PrD := fun ds R _ => ∃ ns : List Int, ds = [.scr ns] ∧ R (.im (.bl true))
theorem sp_law {H : Hp} {a : Addr} {ns : List Int} (hS : SqL K H a (ns.map V.int)) : spD K P_law [.ref a] H (fun v _ => v = .bl true) fun _ _ _ => False :=
  ⟨[], H, [.scr ns], fun s => s = .im (.bl true), fun _ => False, Opn.all, .one ⟨a, rfl, hS⟩, ⟨ns, rfl, rfl⟩, fun s v H' T' hs _ _ hr => by
    subst hs
    exact hr.1, fun _ _ _ _ _ _ h => h.elim⟩
theorem law_end {k : Nat} {l : PySem.W.OpenLaw} {oc : Value} {od an : Option Addr} {osl : Array (Option Value)} {kV doc pm cdv ct : Value} {fa : Addr} (X : K.In h) (G : h.Ns mainGlobals mg) (hfa : mg "law" = some (.ref fa)) (a : PySem.W.nsIn K mainGlobals "law" = some (some (.ref f))) (lk : K.lookup f = some ⟨oc, od, .func (PySem.W.fnOf "law" "law" (defArgs st) (defBody st) (defScope st) .none kV doc pm an cdv ct), osl⟩)
    (c : PySem.W.codeIn K cdv "law" = true) (kp : PySem.W.keepIn K (.ref f) = true) (CX : CXT)
    (b : ∀ (s : Shared) (v : Value), BindsTo s (PySem.W.fnOf "law" "law" (defArgs st) (defBody st) (defScope st) .none kV doc pm an cdv ct) ⟨[v], []⟩ [("script", v)])
    (ok : ∀ (fd : FuncData) (base : Heap), Fun K "law" "law" st f fd → FnOk l.prog w K mg base CX k f fd ["script"] (spD K P_law)) :
    ∃ fd : FuncData, (∀ (s : Shared) (v : Value), BindsTo s fd ⟨[v], []⟩ [("script", v)]) ∧ ∀ base : Heap, K.In base → base.Ns mainGlobals mg → FnOk l.prog w K mg base CX k fa fd ["script"] (spD K P_law) := by
  have e := hfa.symm.trans (PySem.W.mg_of X G a)
  cases e
  exact ⟨_, b, fun base _ _ => ok _ base (fun_mk lk c kp)⟩
end
end FS
set_option Elab.async false
set_option linter.all false
set_option maxRecDepth 100000
set_option maxHeartbeats 4000000
set_option exponentiation.threshold 20000
namespace FS
open PySem PySem.Spec PyProof.Rows L2
theorem map_get {α : Type} {f : α → D} {l : List α} {i : Nat} {d : D} (h : (l.map f)[i]? = some d) : ∃ x, l[i]? = some x ∧ d = f x := by
  rw [List.getElem?_map] at h
  cases e : l[i]? with
  | none => rw [e] at h; cases h
  | some x =>
    rw [e] at h
    exact ⟨x, rfl, (Option.some.inj h).symm⟩
theorem drop_get {α : Type} {l : List α} {i : Nat} {x : α} (h : l[i]? = some x) : l.drop i = x :: l.drop (i + 1) := by
  obtain ⟨hi, e⟩ := List.getElem?_eq_some_iff.mp h
  rw [List.drop_eq_getElem_cons hi, e]
theorem ws_cut {K : PySem.W.Frag} {E : L2.WX} {t u : TS} {ρ : Rho} {P : Pst} (ρm : Rho) (h : Ws K E t ρ { P with nx := fun ρ' => ρ' = ρm }) (h2 : Ws K E u ρm P) : Ws K E (tSeq t u) ρ P :=
  ws_seq (ws_mono h (fun ρ' e => by rw [show ρ' = ρm from e]; exact h2) (fun _ q => q) (fun _ q => q) (fun _ q => q) fun _ _ q => q)
/-- .. where some slots are told loosely -/
theorem ws_mid {K : PySem.W.Frag} {E : L2.WX} {t u : TS} {ρ : Rho} {P : Pst} (I : Rho → Prop) (h : Ws K E t ρ { P with nx := I }) (h2 : ∀ ρ', I ρ' → Ws K E u ρ' P) : Ws K E (tSeq t u) ρ P :=
  ws_seq (ws_mono h (fun ρ' q => h2 ρ' q) (fun _ q => q) (fun _ q => q) (fun _ q => q) fun _ _ q => q)
def cell (ns : List Int) (k : Int) : Int := if k < ns.length then ns.getD k.toNat 0 else 31 * k + 5
theorem cdiv_200 {i j : Int} (h : 0 < j) (h2 : j < 2 ^ 200) : CDivW i j := wide_div (b := 200) h (by omega) (by decide) (by decide)
theorem scal_ints (l : List Int) : ∀ d ∈ l.map D.int, d.sc = true := by
  intro d hd
  obtain ⟨x, _, rfl⟩ := List.mem_map.mp hd
  rfl
theorem cast_lt {a k : Nat} (h : a < 2 ^ k) : (a : Int) < 2 ^ k := by exact_mod_cast h
theorem abs_lt {d : Int} {k : Nat} (h0 : 0 ≤ d) (h : d < 2 ^ k) : d.natAbs < 2 ^ k := by
  have : (d.natAbs : Int) < ((2 ^ k : Nat) : Int) := by
    rw [Int.natAbs_of_nonneg h0]
    exact_mod_cast h
  exact_mod_cast this
theorem div_up {f : Nat} {d : Int} {k : Nat} (h : f < 2 ^ k) (hd : 0 < d) : ((f : Int) / d).natAbs < 2 ^ k := by
  have e : ((f : Int) / d) = ((f / d.natAbs : Nat) : Int) := by
    have : d = ((d.natAbs : Nat) : Int) := by omega
    rw [Int.natCast_ediv, ← this]
  rw [e, Int.natAbs_natCast]
  exact Nat.lt_of_le_of_lt (Nat.div_le_self _ _) h
theorem EvC.is {K : PySem.W.Frag} {ρ : Rho} {te : TE} {x y : D} (h : EvC K te ρ x) (e : x = y) : EvC K te ρ y := e ▸ h
theorem ev_er {K : PySem.W.Frag} {ρ : Rho} {te : TE} {d : D} (h : EvD K te ρ d) : EvD K te ρ d.er := fun M T0 H T σ X Q e q => h M T0 H T σ X _ e fun v H1 T1 s1 t1 e1 i1 => q v H1 T1 s1 t1 e1 (Is.er d v i1)
theorem erL_kn {α : Type} {f : α → D} : ∀ l : List α, D.erL (l.map fun x => .kn (f x)) = l.map f
  | [] => rfl
  | x :: l => by rw [List.map_cons, List.map_cons, D.erL, erL_kn l] <;> rfl
/-! rows of numbers -/
def intsD (l : List Int) : D := .lst (l.map .int)
def natsD (l : List Nat) : D := .lst (l.map fun n : Nat => .int (n : Int))
def nats (l : List Nat) : List Int := l.map fun n : Nat => (n : Int)
theorem natsD_eq (l : List Nat) : natsD l = intsD (nats l) := by
  unfold natsD intsD nats
  rw [List.map_map]
  rfl
theorem rng_nats (n : Nat) : rng 0 n = (nats (List.range n)).map .int := by
  unfold rng nats
  rw [List.map_map]
  refine List.map_congr_left fun k _ => ?_
  show D.int (0 + (k : Int)) = D.int (k : Int)
  rw [Int.zero_add]
theorem mem_nats {l : List Nat} {x : Nat} : (x : Int) ∈ nats l ↔ x ∈ l := by
  unfold nats
  rw [List.mem_map]
  exact ⟨fun ⟨y, h, e⟩ => by rw [← Int.ofNat.inj e]; exact h, fun h => ⟨x, h, rfl⟩⟩
theorem at_nats {l : List Nat} {k x : Nat} (h : l[k]? = some x) : atI (l.map fun n : Nat => D.int (n : Int)) (k : Int) = some (.int (x : Int)) := at_map (f := fun n : Nat => D.int (n : Int)) h
theorem kf_ints (l : List Int) : (intsD l).kf = true := D.kf_lst fun d hd => D.sc_kf (scal_ints l d hd)
/-- what a filter leaves when one more is looked at -/
theorem filter_range_succ {n : Nat} {p : Nat → Bool} : (List.range (n + 1)).filter p = (List.range n).filter p ++ if p n then [n] else [] := by
  rw [List.range_succ, List.filter_append, List.filter_cons]
  cases p n <;> rfl
theorem rv_p9 {K : PySem.W.Frag} : RvD K rPowA (.int 10) (.int 9) (.int 1000000000) := rv_pow ⟨by decide, by decide, by decide⟩ (by decide)
theorem rv_p31 {K : PySem.W.Frag} : RvD K rPowA (.int 10) (.int 31) (.int 10000000000000000000000000000000) := rv_pow ⟨by decide, by decide, by decide⟩ (by decide)
theorem rv_p51 {K : PySem.W.Frag} : RvD K rPowA (.int 10) (.int 51) (.int 1000000000000000000000000000000000000000000000000000) := rv_pow ⟨by decide, by decide, by decide⟩ (by decide)
end FS
set_option Elab.async false
set_option linter.all false
set_option maxRecDepth 100000
set_option maxHeartbeats 4000000
/-! Errors with fields: made, raised, caught, asked. -/
namespace FS
open PySem PySem.Spec PyProof.Rows L2

/-! ### Up.__init__(self, ..), Up an own class over ValueError that has no __init__ -/
structure UpC (K : PySem.W.Frag) (mg : Str → Option Value) (x : Str) (CF : Addr) : Prop where
  mg : mg x = some (.ref CF)
  rd : PySem.W.readsIn K CF (.type "type") = true
  ga : PySem.W.specialIn K (.ref CF) "__getattribute__" = some (some (.builtin "type.__getattribute__"))
  fi : PySem.W.findCls K (.ref CF) (.type "type") "__init__" = some (.val (.builtin "ValueError.__init__"))
section
variable {X : Cx} {e : Expr} {es : List Expr} {ta : TA} {x : Str} {CF : Addr} {p1 p2 pos : Pos}
theorem pe_up {pl : Sem Bool} (U : UpC X.K X.mg x CF) (hg : Gl X x) (ha : PA X (e :: es) ta) (hdb : (x == ("__debug__" : Str)) = false := by decide)
    (hc : eval (.Call (.Attribute (.Name x p1) "__init__" p2) (e :: es) [] pos) X.env = (eval (.Name x p1) X.env >>= fun ov => standAt p2.atName >>= fun _ => holding [ov] (getMethod ov "__init__" pl) >>= fun r => callWith pos r.1 r.2 (backTo pos (starEach (e :: es) X.env)) (backToKw pos (keywordEach [] X.env))) := by rfl)
    (hs : starEach (e :: es) X.env = (false, eval e X.env) :: starEach es X.env := by rfl) (hpl : (backTo pos (starEach es X.env)).any (·.1) = false := by rfl) : PE X (.Call (.Attribute (.Name x p1) "__init__" p2) (e :: es) [] pos) (tVeI X.K ta) := ⟨fun pins s σ H Q I h => by
  refine PySem.W.methodCall_KW (pl := pl) (ld_glob I hg U.mg (PySem.W.method_cls I.kIn U.ga (PySem.W.cls_value I.kIn U.rd U.fi rfl ?_)) hdb) hc
  refine PyProof.Rows.callWith_method1 (id := "ValueError.__init__") (thn (ha.run pos pins _ σ H _ (I.tok _) h) ?_) hs hpl
  rintro us s1 ⟨vs, H1, I1, r1, a, C, ws, ev, hl, T, ea, q⟩
  subst ev
  match us, r1 with
  | _, .cons ra rr =>
    cases (show _ = Value.ref a from ra)
    have hz : _ ≤ 1000 := rr.length ▸ hl
    exact oinit_ok T I1 ea (Nat.le_trans hz (by decide)) fun s' J => ⟨.non, H1, J, rfl, q⟩⟩
end

/-! ### an __init__ that keeps its arguments -/
/-- the exception at a, its fields told from the last one on -/
def xmade (H : Hp) (a C dx : Addr) (fs : List (Str × V)) : Hp := upd (upd H dx (exd dx fs)) a (exo a C (some dx))
def spXI (C : Addr) (ns : List Str) : Sp := fun vs H Q _ => ∃ (a : Addr) (ws : List V), vs = .ref a :: ws ∧ ws.length = ns.length ∧ H a = some (exo a C none) ∧ ∀ dx, H dx = none → dx ≠ a → Q .non (xmade H a C dx (ns.reverse.zip ws.reverse))
theorem xmade_more {H : Hp} {a C dx : Addr} {fs fs' : List (Str × V)} (h : dx ≠ a) : upd (xmade H a C dx fs) dx (exd dx fs') = xmade H a C dx fs' := by
  funext b
  unfold xmade
  by_cases h1 : b = dx
  · subst h1
    rw [upd_same, upd_ne h, upd_same]
  · rw [upd_ne h1]
    by_cases h2 : b = a
    · subst h2
      rw [upd_same, upd_same]
    · rw [upd_ne h2, upd_ne h2, upd_ne h1, upd_ne h1]
section
variable {K : PySem.W.Frag} {C : Addr} {f g : Str} {H : Hp} {vs : List V} {Q : VK} {E : XK} {m : Str}
/-- the body's reading: one field -/
theorem xi_1 (T : OexC K C) (n1 : PySem.W.findIn K (.ref C) f = some none) (h : spXI C [f] vs H Q E) :
    tSeq (tDrop (tVeI K (tCons (tVar 0) (tCons (tC (.str m)) tNil)))) (tOst K f (tVar 0) (tVar 1)) { nx := fun _ H' => Q .non H', rt := Q } (L2.start ["self", f] vs) H := by
  obtain ⟨a, ws, rfl, hl, ha, q⟩ := h
  obtain ⟨w, rfl⟩ := List.length_eq_one_iff.mp hl
  refine ⟨.ref a, rfl, a, C, [.str m], rfl, by simp, T, ha, ?_⟩
  exact ⟨w, rfl, .ref a, rfl, a, C, rfl, T, n1, .inl ⟨ha, fun dx h1 h2 => q dx h1 h2⟩⟩
theorem xi_2 (T : OexC K C) (n1 : PySem.W.findIn K (.ref C) f = some none) (n2 : PySem.W.findIn K (.ref C) g = some none) (h : spXI C [f, g] vs H Q E) :
    tSeq (tDrop (tVeI K (tCons (tVar 0) (tCons (tC (.str m)) tNil)))) (tSeq (tOst K f (tVar 0) (tVar 1)) (tOst K g (tVar 0) (tVar 2))) { nx := fun _ H' => Q .non H', rt := Q } (L2.start ["self", f, g] vs) H := by
  obtain ⟨a, ws, rfl, hl, ha, q⟩ := h
  obtain ⟨w, u, rfl⟩ : ∃ w u, ws = [w, u] := by
    match ws, hl with
    | [w, u], _ => exact ⟨w, u, rfl⟩
  refine ⟨.ref a, rfl, a, C, [.str m], rfl, by simp, T, ha, ?_⟩
  refine ⟨w, rfl, .ref a, rfl, a, C, rfl, T, n1, .inl ⟨ha, fun dx h1 h2 => ?_⟩⟩
  refine ⟨u, rfl, .ref a, rfl, a, C, rfl, T, n2, .inr ⟨dx, [(f, w)], upd_same, ?_, by simp, ?_⟩⟩
  · rw [upd_ne h2, upd_same]
  · have := q dx h1 h2
    rw [← xmade_more (fs := [(f, w)]) h2] at this
    exact this
end

/-! ### a class of errors -/
/-- an own class with an __init__ of its own -/
structure Dx (K : PySem.W.Frag) (mg : Str → Option Value) (x : Str) (C : Addr) (qual : Str) (st : Stmt) (ps : List Str) : Prop where
  ex : ∃ f fd, Fun K "__init__" qual st f fd ∧ PySem.W.findIn K (.ref C) "__init__" = some (some (.ref f)) ∧ PySem.W.typeIn K (.ref f) = some (.type "function") ∧ Binds K fd ps []
  mg : mg x = some (.ref C)
  oex : OexC K C
/-- .. that stands: it keeps the fields ns -/
structure FnX (P : Program) (w : World) (K : PySem.W.Frag) (mg : Str → Option Value) (base : Heap) (k : Nat) (x : Str) (C : Addr) (ns : List Str) : Prop where
  ex : ∃ f fd ps, FnOk P w K mg base CX0 k f fd ps (spXI C ns) ∧ PySem.W.findIn K (.ref C) "__init__" = some (some (.ref f)) ∧ PySem.W.typeIn K (.ref f) = some (.type "function") ∧ Binds K fd ps []
  mg : mg x = some (.ref C)
  oex : OexC K C
section
variable {P : Program} {w : World} {K : PySem.W.Frag} {mg : Str → Option Value} {base : Heap} {x qual f g m : Str} {st : Stmt} {C : Addr}
theorem Dx.ok1 (F : Dx K mg x C qual st ["self", f]) (S : FnScope ["self", f] ["self", f] (defScope st)) (n1 : PySem.W.findIn K (.ref C) f = some none)
    (hbody : ∀ (f' : Addr) (cdv : Value) (A : Around) (outer : List Env) (s : Shared) (H : Hp) (E : XK), Room 0 (A.deeper (envOfC qual (defScope st) s.heap.objs.size f' cdv)) →
      PSs (cxOf CX0 P w K mg base ["self", f] qual (defScope st) f' cdv A outer s H E).nox (defBody st) (tSeq (tDrop (tVeI K (tCons (tVar 0) (tCons (tC (.str m)) tNil)))) (tOst K f (tVar 0) (tVar 1)))) : FnX P w K mg base 1 x C [f] := by
  obtain ⟨f', fd, F', h1, h2, hb⟩ := F.ex
  refine ⟨⟨f', fd, _, F'.ok S (fun vs H Q E h => ?_) (fun cdv A outer s H vs Q E hr h => ⟨_, hbody f' cdv A outer s H E hr, xi_1 F.oex n1 h⟩), h1, h2, hb⟩, F.mg, F.oex⟩
  obtain ⟨a, ws, rfl, hl, _⟩ := h
  rw [List.length_cons, hl]
  rfl
theorem Dx.ok2 (F : Dx K mg x C qual st ["self", f, g]) (S : FnScope ["self", f, g] ["self", f, g] (defScope st)) (n1 : PySem.W.findIn K (.ref C) f = some none) (n2 : PySem.W.findIn K (.ref C) g = some none)
    (hbody : ∀ (f' : Addr) (cdv : Value) (A : Around) (outer : List Env) (s : Shared) (H : Hp) (E : XK), Room 0 (A.deeper (envOfC qual (defScope st) s.heap.objs.size f' cdv)) →
      PSs (cxOf CX0 P w K mg base ["self", f, g] qual (defScope st) f' cdv A outer s H E).nox (defBody st) (tSeq (tDrop (tVeI K (tCons (tVar 0) (tCons (tC (.str m)) tNil)))) (tSeq (tOst K f (tVar 0) (tVar 1)) (tOst K g (tVar 0) (tVar 2))))) : FnX P w K mg base 1 x C [f, g] := by
  obtain ⟨f', fd, F', h1, h2, hb⟩ := F.ex
  refine ⟨⟨f', fd, _, F'.ok S (fun vs H Q E h => ?_) (fun cdv A outer s H vs Q E hr h => ⟨_, hbody f' cdv A outer s H E hr, xi_2 F.oex n1 n2 h⟩), h1, h2, hb⟩, F.mg, F.oex⟩
  obtain ⟨a, ws, rfl, hl, _⟩ := h
  rw [List.length_cons, hl]
  rfl
end
section
variable {X : Cx} {k : Nat} {x : Str} {C f : Addr} {ns ps : List Str} {sp : Sp} {fd : FuncData} {e : Expr} {es : List Expr} {t : TA} {p pos : Pos} {W : WX}
/-- an error with fields is made; its context is None -/
theorem pmk_xN (T : OexC X.K C) (iC : PySem.W.findIn X.K (.ref C) "__init__" = some (some (.ref f))) (tI : PySem.W.typeIn X.K (.ref f) = some (.type "function")) (F : FnOk X.prog X.w X.K X.mg X.base CX0 k f fd ps sp) (hr : Room (k + 1) X.A) (hb : Binds X.K fd ps []) (hx : Passes CX0 X (fun _ _ _ => False))
    (hg : Gl X x) (hm : X.mg x = some (.ref C)) (ha : PA X (e :: es) t) (hdb : (x == ("__debug__" : Str)) = false) (he : starEach (e :: es) X.env = (false, eval e X.env) :: starEach es X.env) (hpl : (backTo pos (starEach es X.env)).any (·.1) = false) : L2N.PMk X (.Call (.Name x p) (e :: es) [] pos) (tMkO C sp [] t) := fun pins s σ H Q I h => by
  obtain ⟨nm, qn, N, bs, bm, sn, sub, ab, col, dd, k0, k1, k2, k3, k5, hC, hbm⟩ := T.cls
  refine wpAny_Call_Name_kw (ld_glob I hg hm (PySem.W.callWith_K (h₀ := X.base) I.ok.mod.kin T.kC (thn (ha.run pos pins s σ H _ I h) ?_) he hpl) hdb)
  rintro us ⟨hp, gs, dr, tk, os⟩ ⟨vs, H1, I1, r1, hz, q1⟩
  refine ⟨I1.kIn, ?_⟩
  have hsz : hp.objs.size ≤ hp.objs.size + 1 := Nat.le_succ _
  have hq := q1 (hp.objs.size + 1) (I1.hok.fresh hsz)
  rw [List.append_nil] at hq
  have kk : ∀ b o, hp.get? b = some o → ((hp.push (PySem.W.kdv_tup us)).push (PySem.HandSPX.excO C hp.objs.size)).get? b = some o := fun b o z => Heap.get?_push_of_some _ (Heap.get?_push_of_some _ z)
  have J : Inv X pins σ (upd H1 (hp.objs.size + 1) (exo (hp.objs.size + 1) C none)) ⟨(hp.push (PySem.W.kdv_tup us)).push (PySem.HandSPX.excO C hp.objs.size), gs, dr, tk, os⟩ :=
    I1.laid (t' := tk) (h' := (hp.push (PySem.W.kdv_tup us)).push (PySem.HandSPX.excO C hp.objs.size)) kk hsz (exo_ok (t1 := hp.objs.size) (by heap_get))
  have rr : Vals (V.ref (hp.objs.size + 1) :: vs) (Value.ref (hp.objs.size + 1) :: us) := .cons rfl r1
  have hb2 := hb _ (Value.ref (hp.objs.size + 1) :: us) J.kIn (by rw [List.append_nil]; exact rr.length.symm.trans (F.len _ _ _ _ hq))
  rw [List.append_nil] at hb2
  refine wpAny_call (PySem.HandSPX.call_own PySem.F.excBase_ValueError (fun Y => PySem.HandSPX.refsVE_contains Y bm hbm) (I1.kIn _ _ hC) (PySem.W.looks_findIn I1.kIn iC) (fun self => PySem.W.bind_fn I1.kIn self tI) (Nat.le_trans (r1.length ▸ hz) (by decide))
    (codeAny_mono (F.run _ X.stack _ _ ⟨_, []⟩ _ _ _ (fun _ _ _ => False) (hr.make C us []) (J.env0.make C us []) hb2 rr hq) fun r s' z => ?_))
  match r with
  | .error er => exact hx pins σ _ _ er s' J z
  | .ok .next => exact False.elim z
  | .ok .brk => exact False.elim z
  | .ok .cont => exact False.elim z
  | .ok (.ret u) =>
    obtain ⟨v, H2, os2, bare2, un2, hok2, rv, ev, d, fs, ea, ed, hd1, q2⟩ := z
    subst ev
    obtain ⟨h2, g2, d2, t2, os'⟩ := s'
    obtain ⟨t0, G, J2, kG, ge, hoe, na⟩ := mk_end0 (d2 := d2) (t2 := t2) I1 hsz kk un2 hok2 os2 bare2 ea ed hd1
    exact ⟨rv, _, _, _, ⟨G, g2, d2, t2, os'⟩, _, .ref C, some d, rfl, J2, kG, ge, hoe, ⟨rfl, rfl, fun vs z => by cases z; rfl⟩, rfl, rfl, na, rfl, bare2, raises_own T.exC T.tyC, q2⟩
/-- raise C(e, ..) -/
theorem ps_rx (G : FnX X.prog X.w X.K X.mg X.base k x C ns) (hc : X.calm = true) (hr : Room (k + 1) X.A) (tk : L2N.Takes X W) (hx : Passes CX0 X (fun _ _ _ => False)) (ha : PA X (e :: es) t) {pos2 : Pos} (hg : Gl X x := by rfl) (hdb : (x == ("__debug__" : Str)) = false := by decide)
    (he : starEach (e :: es) X.env = (false, eval e X.env) :: starEach es X.env := by rfl) (hpl : (backTo pos (starEach es X.env)).any (·.1) = false := by rfl) :
    PS X (.Raise (some (.Call (.Name x p) (e :: es) [] pos)) none pos2) (fun _ σ H => tMkO C (spXI C ns) [] t σ H fun cls d H' => W cls d σ H') := by
  obtain ⟨f, fd, ps, F, h1, h2, hb⟩ := G.ex
  exact L2N.ps_raise hc tk (pmk_xN G.oex h1 h2 F hr hb hx hg G.mg ha hdb he hpl)
end
section
variable {K : PySem.W.Frag} {E : WX} {ρ : Rho} {P : Pst} {tr : TA} {ds : List D} {C : Addr} {ns : List Str}
theorem IsL.rev {H : Hp} : ∀ {l : List D} {vs : List V}, IsL K H l vs → IsL K H l.reverse vs.reverse
  | [], _, h => by rw [show _ = [] from h]; exact (rfl : [] = [])
  | d :: l, _, ⟨v, r, e, h1, h2⟩ => by
    rw [e, List.reverse_cons, List.reverse_cons]
    exact (IsL.rev h2).app (.one h1)
theorem ws_rx (ha : EvA K tr ρ ds) (hl : ds.length = ns.length) (hn : ns.length ≤ 900) (h : P.ex ρ (.ref C, ns.reverse, ds.reverse)) : Ws K E (fun _ σ H => tMkO C (spXI C ns) [] tr σ H fun cls d H' => E cls d σ H') ρ P := fun M T0 H T σ Dn en k =>
  ha M T0 H T σ [] _ en fun vs H1 T1 s1 t1 e1 i1 => by
    have hvl := i1.len
    refine ⟨by omega, fun a hn => ?_⟩
    rw [List.append_nil]
    refine ⟨a, vs, rfl, by omega, upd_same, fun dx h1 h2 => ?_⟩
    rw [upd_ne h2] at h1
    refine ⟨rfl, dx, ns.reverse.zip vs.reverse, upd_same, ?_, h1, ?_⟩
    · unfold xmade
      rw [upd_ne h2, upd_same]
    · have eT : upd (del (xmade (upd T1 a (exo a C none)) a C dx (ns.reverse.zip vs.reverse)) a) dx (.xd (ns.reverse.zip vs.reverse)) = upd T1 dx (.xd (ns.reverse.zip vs.reverse)) := by
        funext b
        by_cases hb : b = dx
        · subst hb
          rw [upd_same, upd_same]
        · rw [upd_ne hb, upd_ne hb]
          by_cases hb2 : b = a
          · subst hb2
            rw [del_same, hn]
          · rw [del_ne hb2]
            unfold xmade
            rw [upd_ne hb2, upd_ne hb, upd_ne hb2]
      rw [eT]
      obtain ⟨s2, e2⟩ := e1.new (o := .xd (ns.reverse.zip vs.reverse)) h1
      exact k.ex ρ σ _ _ _ (some dx) _ _ h (s1.trans s2) e2 (.inr ⟨dx, vs.reverse, rfl, upd_same, (i1.up s2).rev⟩)
end
end FS
set_option Elab.async false
set_option linter.all false
set_option maxRecDepth 100000
set_option maxHeartbeats 4000000
/-! A caught error asked: its class, its fields. -/
namespace FS
open PySem PySem.Spec PyProof.Rows L2

/-- __class__ of an instance of an own error class, with or without fields -/
theorem exc_class {prog : Program} {w : World} {A : Around} {E : Value → Shared → Prop} {s : Shared} {K : PySem.W.Frag} {x C : Addr} {ox : Obj} {od : Option Obj} {Q : Option Value → Shared → Prop}
    (c : ExcC K C) (kin : K.In s.heap) (J : PySem.W.InstAt s.heap x ox C od) (q : Q (some (.ref C)) { s with toks := s.toks + 1 }) : wpAny (model prog w) A (getAttr? (.ref x) "__class__") Q E s := by
  have found : PySem.W.findObj K C od "__class__" = some (.bind (.builtin "getset_descriptor.__get__") (.builtin "object.__class__")) := by
    obtain ⟨cd, hcd, _⟩ := PySem.W.any_some c.hd
    have hcd' : PySem.W.clsIn K C = some cd := hcd
    unfold PySem.W.findObj
    rw [hcd', Option.bind_some, c.ha, Option.bind_some]
    simp [c.hn, c.ht]
  obtain ⟨hp, gs, dr, tk, os⟩ := s
  have ty := J.type (M := model prog w)
  have isB : PySem.W.Looks (model prog w) hp (isInstance (.ref x) (.type "BaseException")) true := ty.andThen (PySem.W.looks_subIn kin c.hs)
  have no : (Value.builtin "BaseException.__getattribute__" == Value.builtin "object.__getattribute__") = false := by decide +kernel
  have no2 : (onTheHeap (Value.ref C) && Value.builtin "BaseException.__getattribute__" == Value.builtin "object.__getattribute__") = false := by rw [no]; rfl
  unfold getAttr? getAttrBy? getAttrBy
  refine wpAny_bind (wpAny_mkText (wpAny_bind (wpAny_attempt (wpAny_holding (wpAny_bind (ty.at (wpAny_bind ((PySem.W.looks_findIn kin c.hg).at ?_))))))))
  dsimp only
  rw [no2, if_neg Bool.false_ne_true]
  unfold getAttrByItsOwn hookBefore
  refine wpAny_bind ?_
  rw [if_pos (show onTheHeap (Value.ref C) = true from rfl)]
  refine (PySem.W.looks_findIn kin c.hk).at (wpAny_bind (wpAny_attempt (wpAny_holding ?_)))
  unfold callGetattribute
  rw [show (false && onTheHeap (Value.builtin "BaseException.__getattribute__")) = false from rfl, if_neg Bool.false_ne_true]
  unfold boundAndCalled
  rw [PySem.F.excAttr_ValueError.ga.bind (.ref x)]
  refine wpAny_bind (wpAny_pure (wpAny_call (codeAny_call_builtin PySem.F.excAttr_ValueError.ga.plain PySem.F.entry_bexc_ga ?_)))
  refine @PySem.W.check_slot (model prog w) _ _ ⟨hp, gs, dr, tk + 1, os⟩ "BaseException.__getattribute__" "BaseException" "__getattribute__" (.ref x) [.str "__class__" tk] [] _ (by decide +kernel) (by decide +kernel) isB (PySem.F.args_bexc_ga (.ref x) (.str "__class__" tk)) ?_
  unfold Builtin.«object.__getattribute__»
  refine wpAny_bind (wpAny_of_eq (a := ((Value.ref x : Value), [Value.str "__class__" tk])) (by first | rfl | (simp only [slotArgs]; rfl)) (wpAny_bind (wpAny_pure (wpAny_bind (ty.at (wpAny_bind ((PySem.W.looks_find kin J found).at ?_)))))))
  refine wpAny_bind (wpAny_holding (wpAny_call (PySem.W.class_get (s := ⟨hp, gs, dr, tk + 1, os⟩) (ox := ox) (od := od) kin J c.hm ?_)))
  refine wpAny_pure ?_
  show wpAny _ _ (handedOut (.ref C)) _ _ _
  rw [PySem.W.handedOut_of (v := .ref C) rfl]
  first
    | exact wpAny_pure (wpAny_pure q)
    | exact wpAny_pure q
    | exact wpAny_pure (wpAny_bind (wpAny_pure (wpAny_pure q)))
theorem exc_kit {K : PySem.W.Frag} {x C : Addr} {ox : Obj} {od : Option Obj} (c : ExcC K C) : PySem.W.KitX K (.ref x) (.ref C) (fun h => PySem.W.InstAt h x ox C od) := by
  have own : ∃ a b c' d, K.lookup C = some ⟨a, b, .cls c', d⟩ := by
    obtain ⟨cd, hcd, _⟩ := PySem.W.any_some c.hd
    unfold PySem.W.clsIn at hcd
    split at hcd
    · rename_i h
      exact ⟨_, _, _, _, h⟩
    · cases hcd
  obtain ⟨o1, o2, o3, o4, lk⟩ := own
  refine ⟨fun _ _ _ J => J.type, fun _ _ kin _ A' Q' E' s' k q => ?_, fun h tp dd its n sl kin htp => ?_, fun kin J q => exc_class c kin J q⟩
  · unfold isType loadHead
    exact wpAny_bind (wpAny_loadPart (k _ _ (kin _ _ lk)) (wpAny_pure q))
  · by_cases e : C = tp
    · subst e
      have z := (kin _ _ lk).symm.trans htp
      cases z
    · exact beq_eq_false_iff_ne.mpr fun q => e (Value.ref.inj q)

/-! ### in a suite -/
/-- isinstance(e, c), e the error that the suite holds -/
def rIsX (K : PySem.W.Frag) (a : Addr) (cls : Value) (d : Option Addr) : List V → Hp → VK → Prop := fun xs H Q => ∃ (c : V) (cv : Value) (b : Bool) (C : Addr), xs = [.ref a, c] ∧ ClsV c cv ∧ cls = .ref C ∧ ExcC K C ∧ (d = none ∨ ∃ dd fs, d = some dd ∧ H dd = some (.xd fs)) ∧ PySem.W.kitOne K (.ref C) cv = some b ∧ Q (.bl b) H
/-- isinstance(e, (c1, c2, ..)) -/
def rIsXT (K : PySem.W.Frag) (a : Addr) (cls : Value) (d : Option Addr) : List V → Hp → VK → Prop := fun xs H Q => ∃ (tp : Addr) (cs : List V) (us : List Value) (b : Bool) (C : Addr), xs = [.ref a, .ref tp] ∧ H tp = some (.tup cs) ∧ Paired ClsV cs us ∧ cls = .ref C ∧ ExcC K C ∧ (d = none ∨ ∃ dd fs, d = some dd ∧ H dd = some (.xd fs)) ∧ PySem.W.kitAny K (.ref C) us = some b ∧ Q (.bl b) H
section
variable {X : Cx} {a : Addr} {cls : Value} {d : Option Addr} {oe : Obj}
theorem exc_inst {C : Addr} {pins : List (Addr × Obj)} {σ : L2.St} {H : Hp} {s : Shared} (hp : (a, oe) ∈ X.pn) (hz : L2N.Zn cls d oe) (hf : ∃ vs, oe.data = .fields vs) (I : Inv X pins σ H s) (ec : cls = .ref C) (hd : d = none ∨ ∃ dd fs, d = some dd ∧ H dd = some (.xd fs)) :
    ∃ od, PySem.W.InstAt s.heap a oe C od := by
  obtain ⟨hget, _⟩ := I.pin (a, oe) (List.mem_append_left _ hp)
  obtain ⟨vs, hv⟩ := hf
  obtain ⟨h1, h2, _⟩ := hz
  have hn : PySem.W.notCls oe = true := by unfold PySem.W.notCls; rw [hv]
  rcases hd with rfl | ⟨dd, fs, rfl, hx⟩
  · exact ⟨none, hget, h1.trans ec, hn, by rw [h2]; trivial⟩
  · obtain ⟨mA, ⟨o, es, ep, ho, r⟩, _⟩ := (show ObjOk X.prog X.w H s.heap dd (.xd fs) from I.hok dd _ hx)
    exact ⟨some o, hget, h1.trans ec, hn, by rw [h2]; exact ho⟩
theorem call_isX (hp : (a, oe) ∈ X.pn) (hz : L2N.Zn cls d oe) (hf : ∃ vs, oe.data = .fields vs) : CallR X (.builtin "isinstance") (rIsX X.K a cls d) := fun pins s σ H xs us Q I r h => by
  obtain ⟨c, cv, b, C, rfl, hc, ec, hE, hd, e, q⟩ := h
  obtain ⟨od, J⟩ := exc_inst hp hz hf I ec hd
  match us, r with
  | _, .cons ra (.cons rc .nil) =>
    cases (show _ = Value.ref a from ra)
    rw [hc.eq rc]
    exact PySem.W.kia_one (exc_kit hE) I.kIn J e (fun z => nomatch z) fun tk => ⟨.bl b, H, I.tok tk, rfl, q⟩
theorem call_isXT (hp : (a, oe) ∈ X.pn) (hz : L2N.Zn cls d oe) (hf : ∃ vs, oe.data = .fields vs) : CallR X (.builtin "isinstance") (rIsXT X.K a cls d) := fun pins s σ H xs us Q I r h => by
  obtain ⟨tp, cs, ws, b, C, rfl, ht, hc, ec, hE, hd, e, q⟩ := h
  obtain ⟨od, J⟩ := exc_inst hp hz hf I ec hd
  match us, r with
  | _, .cons ra (.cons rc .nil) =>
    cases (show _ = Value.ref a from ra)
    cases (show _ = Value.ref tp from rc)
    obtain ⟨_, its, hv, o, ho, hcl, n, hda⟩ := (show ObjOk X.prog X.w H s.heap tp (.tup cs) from I.hok tp _ ht)
    have ew := ClsV.all hc hv
    subst ew
    obtain ⟨oc, od', oda, osl⟩ := o
    dsimp only at hcl hda
    subst hcl hda
    exact PySem.W.kia_tup (exc_kit hE) I.kIn J ho e (fun z => nomatch z) fun tk => ⟨.bl b, H, I.tok tk, rfl, q⟩
/-- e.f -/
def tXf2 (K : PySem.W.Frag) (a : Addr) (cls : Value) (d : Option Addr) (f : Str) (i : Nat) : TE := fun σ H Q => ∃ (C dd : Addr) (fs : List (Str × V)) (v : V), σ[i]? = some (some (.ref a)) ∧ cls = .ref C ∧ ExcC K C ∧ PySem.W.findIn K (.ref C) f = some none ∧ d = some dd ∧ H dd = some (.xd fs) ∧ fs.lookup f = some v ∧ Q v H
theorem pe_xf2 {i : Nat} {x f : Str} {p pos : Pos} (hp : (a, oe) ∈ X.pn) (hz : L2N.Zn cls d oe) (hf : ∃ vs, oe.data = .fields vs) (he : PE X (.Name x p) (tVar i)) (hb : attributeBase (.Name x p) f X.env (eval (.Name x p) X.env) = eval (.Name x p) X.env := by rfl) :
    PE X (.Attribute (.Name x p) f pos) (tXf2 X.K a cls d f i) := ⟨fun pins s σ H Q I h => by
  obtain ⟨C, dd, fs, v, e1, e2, hE, hno, e3, e4, e5, q⟩ := h
  refine attr_of hb (thn (he.run pins s σ H (fun x H1 => x = .ref a ∧ H1 = H) I ⟨.ref a, e1, rfl, rfl⟩) ?_)
  rintro u s1 ⟨x, H1, I1, rx, rfl, rfl⟩
  cases (show u = Value.ref a from rx)
  obtain ⟨hget, _⟩ := I1.pin (a, oe) (List.mem_append_left _ hp)
  obtain ⟨mA, hns, hr⟩ := (show ObjOk X.prog X.w H1 s1.heap dd (.xd fs) from I1.hok dd _ e4)
  obtain ⟨od, ho, hl⟩ := lookIn_ns hns
  obtain ⟨u, hu, ru⟩ := RelO.some_of (v := v) (o := mA f) (by rw [← e5]; exact hr f)
  obtain ⟨vs, hv⟩ := hf
  have J : PySem.W.InstAt s1.heap a oe C (some od) := ⟨hget, hz.1.trans e2, by unfold PySem.W.notCls; rw [hv], by rw [hz.2.1, e3]; exact ho⟩
  exact PySem.HandSPX.exc_get I1.kIn J hE.hg hE.hk hE.hs (PySem.W.findObj_own hE.hd hno rfl (by rw [hl, hu])) (handed_of ru) ⟨v, H1, I1.tok _, ru, q⟩⟩
end
/-! readings -/
section
variable {K : PySem.W.Frag} {ρ : Rho} {a : Addr} {cls : Value} {od : Option Addr} {ns : List Str} {ds : List D} {i : Nat} {tc : TE} {ta : TA} {C : Addr} {dc : D} {cv : Value} {b : Bool}
/-- a class as a datum -/
def clsD : D → Option Value
  | .obj C => some (.ref C)
  | .ty n => some (.type n)
  | _ => none
theorem clsD_ok {H : Hp} {v : V} (e : clsD dc = some cv) (h : Is K H dc v) : ClsV v cv := by
  cases dc <;> simp only [clsD] at e <;> try cases e
  · rw [show v = V.ty _ from h]
    exact .ty _
  · rw [show v = V.ref _ from h]
    exact .own _
theorem exc_dict {H : Hp} {v : V} (h : Is K H (.exc a od ns ds) v) : v = .ref a ∧ (od = none ∨ ∃ dd fs, od = some dd ∧ H dd = some (.xd fs)) := by
  obtain ⟨h1, h2⟩ := h
  rcases h2 with ⟨_, h2⟩ | ⟨d, vs, h2, h3, _⟩
  · exact ⟨h1, .inl h2⟩
  · exact ⟨h1, .inr ⟨d, _, h2, h3⟩⟩
theorem ev_isX (e : ρ[i]? = some (.im (.exc a od ns ds))) (hc : EvD K tc ρ dc) (hcv : clsD dc = some cv) (hE : ExcC K C) (hk : PySem.W.kitOne K (.ref C) cv = some b) : EvD K (tCB (rIsX K a (.ref C) od) (tCons (tVar i) (tCons tc tNil))) ρ (.bl b) := fun M T0 H T σ X Q en q => by
  obtain ⟨v, h1, h2⟩ := en.get e
  refine ⟨v, h1, hc M T0 H T σ X _ en fun u H1 T1 s1 t1 e1 i1 => ?_⟩
  obtain ⟨rfl, hd⟩ := exc_dict (h2.up (s1.trans e1.same))
  exact ⟨u, cv, b, C, rfl, clsD_ok hcv i1, rfl, hE, hd, hk, q _ H1 T1 s1 t1 e1 rfl⟩
theorem ev_xf {f : Str} {j : Nat} {d : D} (e : ρ[i]? = some (.im (.exc a od ns ds))) (hn : ns ≠ []) (hj : fldAt ns f = some j) (hd : ds[j]? = some d) (hE : ExcC K C) (hno : PySem.W.findIn K (.ref C) f = some none) : EvD K (tXf2 K a (.ref C) od f i) ρ d := fun M T0 H T σ X Q en q => by
  obtain ⟨v, h1, rfl, h2⟩ := en.get e
  rcases h2 with ⟨h2, _⟩ | ⟨dd, vs, h2, h3, h4⟩
  · exact absurd h2 hn
  · obtain ⟨w, g1, g2⟩ := h4.get hd
    exact ⟨C, dd, _, w, h1, rfl, hE, hno, h2, en.same _ _ h3, (fld_look hj g1).1, q w H T (Same.refl _) (Same.refl _) en g2⟩
end
end FS
set_option Elab.async false
set_option linter.all false
set_option maxRecDepth 100000
set_option maxHeartbeats 4000000
/-! Calls that may raise; try. -/
namespace FS
open PySem PySem.Spec PyProof.Rows L2

theorem passN {X : Cx} : Passes (L2N.CX X.prog X.w) X E0 := fun _ _ _ _ _ _ _ h => by
  obtain ⟨_, _, _, _, _, _, _, _, _, _, _, _, z⟩ := h
  exact z.elim
theorem takesN0 {X : Cx} : L2N.Takes X (fun _ _ _ _ => False) := fun _ _ x => by
  obtain ⟨_, _, _, _, _, _, _, _, _, _, _, _, _, _, _, _, z⟩ := x
  exact z.elim
section
variable {P : Program} {w : World} {K : PySem.W.Frag} {mg : Str → Option Value} {base : Heap} {x m qual : Str} {st : Stmt} {N ps : List Str} {k : Nat} {Pr : PrD} {C : Addr}
theorem fun_okN {f : Addr} {fd : FuncData} {sp : Sp} (F : Fun K x qual st f fd) (S : FnScope N ps (defScope st)) (len : ∀ vs H Q E, sp vs H Q E → vs.length = ps.length)
    (hbody : ∀ (cdv : Value) (A : Around) (outer : List Env) (s : Shared) (H : Hp) (vs : List V) (Q : VK) (E : XK), Room k (A.deeper (envOfC qual (defScope st) s.heap.objs.size f cdv)) → sp vs H Q E →
      ∃ t, PSs (cxOf (L2N.CX P w) P w K mg base N qual (defScope st) f cdv A outer s H E) (defBody st) t ∧ t { nx := fun _ H' => Q .non H', rt := Q } (start N vs) H) : FnOk P w K mg base (L2N.CX P w) (k + 1) f fd ps sp := by
  obtain ⟨oc, od, kV, doc, pm, an, cdv, ct, osl, rfl, lk, hcd⟩ := F.ex
  exact fn_of lk hcd S len fun A outer s H vs Q E hr q => hbody cdv A outer s H vs Q E hr q
theorem Df.okN (F : Df K mg x st ps) (S : FnScope N ps (defScope st)) (len : ∀ ds R Z, Pr ds R Z → ds.length = ps.length)
    (hbody : ∀ (f : Addr) (cdv : Value) (A : Around) (outer : List Env) (s : Shared) (H : Hp) (E : XK), Room k (A.deeper (envOfC x (defScope st) s.heap.objs.size f cdv)) →
      ∃ t, PSs (cxOf (L2N.CX P w) P w K mg base N x (defScope st) f cdv A outer s H E) (defBody st) t ∧ ∀ ds R Z, Pr ds R Z → Ws K (upX E) t (ds.map .im ++ List.replicate (N.length - ds.length) .no) { nx := fun _ => R (.im .non), rt := R, ex := fun _ => Z }) :
    FnG P w K mg base (L2N.CX P w) (k + 1) x ps (spD K Pr) := by
  obtain ⟨f, fd, F, hm, hb⟩ := F.ex
  refine ⟨f, fd, fun_okN F S (fun vs H Q E h => len_fn len h) (fun cdv A outer s H vs Q E hr h => ?_), hm, F.kp, hb⟩
  obtain ⟨t, h1, h2⟩ := hbody f cdv A outer s H E hr
  exact ⟨t, h1, read_fn h h2⟩
theorem Dm.okN (F : Dm K C m qual st ps) (S : FnScope N ps (defScope st)) (len : ∀ ds R Z, Pr ds R Z → ds.length = ps.length)
    (hbody : ∀ (f : Addr) (cdv : Value) (A : Around) (outer : List Env) (s : Shared) (H : Hp) (E : XK), Room k (A.deeper (envOfC qual (defScope st) s.heap.objs.size f cdv)) →
      ∃ t, PSs (cxOf (L2N.CX P w) P w K mg base N qual (defScope st) f cdv A outer s H E) (defBody st) t ∧ ∀ ds R Z, Pr ds R Z → Ws K (upX E) t (ds.map .im ++ List.replicate (N.length - ds.length) .no) { nx := fun _ => R (.im .non), rt := R, ex := fun _ => Z }) :
    FnM P w K mg base (L2N.CX P w) (k + 1) C m ps (spD K Pr) := by
  obtain ⟨f, fd, F, hm, hb⟩ := F.ex
  refine ⟨f, fd, fun_okN F S (fun vs H Q E h => len_fn len h) (fun cdv A outer s H vs Q E hr h => ?_), hm, hb⟩
  obtain ⟨t, h1, h2⟩ := hbody f cdv A outer s H E hr
  exact ⟨t, h1, read_fn h h2⟩
theorem Di.okN {Pm : List D → (D → Prop) → (Exn → Prop) → Prop} (F : Di K mg C x qual st ps) (S : FnScope N ps (defScope st)) (len : ∀ ds R Z, Pm ds R Z → ds.length + 1 = ps.length)
    (hbody : ∀ (f : Addr) (cdv : Value) (A : Around) (outer : List Env) (s : Shared) (H : Hp) (E : XK), Room k (A.deeper (envOfC qual (defScope st) s.heap.objs.size f cdv)) →
      ∃ t, PSs (cxOf (L2N.CX P w) P w K mg base N qual (defScope st) f cdv A outer s H E) (defBody st) t ∧ ∀ a ds R Z, Pm ds R Z → Ws K (upX E) t (.cl (.slf a C [] []) :: (ds.map .im ++ List.replicate (N.length - (ds.length + 1)) .no)) { nx := fun ρ' => ∃ ns l, ρ'[0]? = some (.cl (.slf a C ns l)) ∧ R (.ins C ns l), ex := fun _ => Z }) :
    FnI P w K mg base (L2N.CX P w) (k + 1) C x ps (spMk K C Pm) := by
  obtain ⟨f, fd, F, hm, hC, hb⟩ := F.ex
  refine ⟨f, fd, fun_okN F S (fun vs H Q E h => len_mk len h) (fun cdv A outer s H vs Q E hr h => ?_), hm, hC, hb⟩
  obtain ⟨t, h1, h2⟩ := hbody f cdv A outer s H E hr
  exact ⟨t, h1, read_init h h2⟩
end
/-- an own class of errors without an __init__ -/
structure Ep (K : PySem.W.Frag) (mg : Str → Option Value) (x : Str) (C : Addr) : Prop where
  xi : PySem.W.excIn K C [.type "ValueError", .type "Exception", .type "BaseException", .type "object"] "ValueError.__new__" = true
  mg : mg x = some (.ref C)
  kp : PySem.W.keepIn K (.ref C) = true
  sb : PySem.W.subIn K (.ref C) (.type "BaseException") = some true
  ty : PySem.W.typeIn K (.ref C) = some (.type "type")
section
variable {X : Cx} {W : WX} {k j : Nat} {x m : Str} {C : Addr} {ps : List Str} {sp : Sp} {e o : Expr} {es : List Expr} {t : TA} {ta : TE} {p p2 pos pos2 apos : Pos}
theorem ps_r0 (G : Ep X.K X.mg x C) (hc : X.calm = true) (tk : L2N.Takes X W) (hg : Gl X x := by rfl) (hdb : (x == ("__debug__" : Str)) = false := by decide) : PS X (.Raise (some (.Call (.Name x p) [.Constant (.str m) j p2] [] pos)) none pos2) (tRaise0 W (.ref C)) :=
  L2N.ps_raise hc tk (L2N.pmk_own PySem.F.excBase_ValueError G.xi G.mg G.kp (raises_own G.sb G.ty) hg hdb)
theorem pe_gX (G : FnG X.prog X.w X.K X.mg X.base (L2N.CX X.prog X.w) k x ps sp) (hr : Room k X.A) (tk : L2N.Takes X W) (ha : PA X (e :: es) t) (hg : Gl X x := by rfl) (hdb : (x == ("__debug__" : Str)) = false := by decide)
    (he : starEach (e :: es) X.env = (false, eval e X.env) :: starEach es X.env := by rfl) (hpl : (backTo pos (starEach es X.env)).any (·.1) = false := by rfl) : PE X (.Call (.Name x p) (e :: es) [] pos) (tCallS sp (WE W) t) := by
  obtain ⟨f, fd, F, hm, hk, hb⟩ := G.ex
  exact pe_callS F hr hg hm hk hb (fun σ => L2N.passAt tk σ) ha hdb he hpl
/-- the receiver ahead of the arguments -/
def tRecv (C : Addr) (m : Str) (ta : TE) (tr : TA) : TA := fun σ H Q => ta σ H fun x H1 => ∃ a dx fs, x = .ref a ∧ H1 a = some (.ins C dx fs) ∧ fs.lookup m = none ∧ tr σ H1 fun vs H2 => Q (x :: vs) H2
theorem pe_mX {pl : Sem Bool} (G : FnM X.prog X.w X.K X.mg X.base (L2N.CX X.prog X.w) k C m ps sp) (c : Cls X.K C) (hr : Room k X.A) (tk : L2N.Takes X W) (he : PE X o ta) (ha : PA X (e :: es) t)
    (hst : starEach (e :: es) X.env = (false, eval e X.env) :: starEach es X.env := by rfl) (hpl : (backTo pos (starEach es X.env)).any (·.1) = false := by rfl)
    (ht : eval (.Call (.Attribute o m apos) (e :: es) [] pos) X.env = (eval o X.env >>= fun ov => standAt apos.atName >>= fun _ => holding [ov] (getMethod ov m pl) >>= fun r => callWith pos r.1 r.2 (backTo pos (starEach (e :: es) X.env)) (backToKw pos (keywordEach [] X.env))) := by rfl) :
    PE X (.Call (.Attribute o m apos) (e :: es) [] pos) (tCallS sp (WE W) (tRecv C m ta t)) := ⟨fun pins s σ H Q I h => by
  obtain ⟨f, fd, F, hm, hb⟩ := G.ex
  refine PySem.W.methodCall_KW (pl := pl) (thn (he.run pins s σ H _ I h) ?_) ht
  rintro u s1 ⟨x, H1, I1, rx, a, dx, fs, rfl, ea, l, q⟩
  cases (show u = Value.ref a from rx)
  refine getmeth_ok I1 ea c hm l (PySem.W.callWith_K (first := [.ref a]) (h₀ := X.base) I.ok.mod.kin hm.kp (thn (ha.run pos pins s1 σ H1 _ I1 q) ?_) hst hpl)
  rintro us s2 ⟨vs, H2, I2, r, q2⟩
  exact ⟨I2.kIn, run_fnS (E := WE W) (us := .ref a :: us) (vs := .ref a :: vs) F hr hb (L2N.passAt tk σ) I2 (.cons rfl r) q2⟩⟩
/-- C(e, ..), its __init__ may raise -/
def tMakeW (C : Addr) (sp : Sp) (W : WX) (t : TA) : TE := fun σ H Q => tMake C sp [] (WE W σ) t σ H Q
theorem pe_mkX (G : FnI X.prog X.w X.K X.mg X.base (L2N.CX X.prog X.w) k C x ps sp) (hr : Room (k + 1) X.A) (tk : L2N.Takes X W) (ha : PA X (e :: es) t) (hg : Gl X x := by rfl) (hdb : (x == ("__debug__" : Str)) = false := by decide)
    (he : starEach (e :: es) X.env = (false, eval e X.env) :: starEach es X.env := by rfl) (hpl : (backTo pos (starEach es X.env)).any (·.1) = false := by rfl) : PE X (.Call (.Name x p) (e :: es) [] pos) (tMakeW C sp W t) := ⟨fun pins s σ H Q I h => by
  obtain ⟨f, fd, F, M, hC, hb⟩ := G.ex
  refine wpAny_Call_Name_kw (ld_glob I hg hC (PySem.W.callWith_K (h₀ := X.base) I.ok.mod.kin M.kp (thn (ha.run pos pins s σ H _ I h) ?_) he hpl) hdb)
  rintro us s1 ⟨vs, H1, I1, r, q⟩
  refine ⟨I1.kIn, ?_⟩
  have hq := q (s1.heap.objs.size + 1) s1.heap.objs.size (I1.hok.fresh (Nat.le_succ _)) (I1.hok.fresh (Nat.le_refl _)) (Nat.ne_of_lt (Nat.lt_succ_self _))
  rw [List.append_nil] at hq
  have J := Inv.made (C := C) I1
  have rr : Vals (V.ref (s1.heap.objs.size + 1) :: vs) (Value.ref (s1.heap.objs.size + 1) :: us) := .cons rfl r
  have hb2 := hb _ (Value.ref (s1.heap.objs.size + 1) :: us) J.kIn (by rw [List.append_nil]; exact rr.length.symm.trans (F.len _ _ _ _ hq))
  rw [List.append_nil] at hb2
  refine wpAny_call (make_map (f := f) I1.kIn M.makes M.init (beq_iff_eq.mp M.fn) (codeAny_mono (F.run _ X.stack _ _ ⟨_, []⟩ _ _ _ _ (hr.make C us []) (J.env0.make C us []) hb2 rr hq) fun r s' z => ?_))
  match r with
  | .error e' => exact L2N.passAt tk σ pins _ _ e' s' J z
  | .ok (.ret u) =>
    obtain ⟨v, H', I3, rv, ev, q3⟩ := J.after z
    subst ev
    exact ⟨rv, V.ref (s1.heap.objs.size + 1), H', I3, rfl, q3⟩
  | .ok .next => exact False.elim z
  | .ok .brk => exact False.elim z
  | .ok .cont => exact False.elim z⟩
/-- a class of errors as a value -/
theorem gc (h : X.mg x = some (.ref C)) (hg : Gl X x := by rfl) (hd : (x == ("__debug__" : Str)) = false := by decide) : PE X (.Name x pos) (tC (.ref C)) := pe_glob hg h rfl hd
end
section
variable {K : PySem.W.Frag} {ρ : Rho} {z d : D} {l : List D} {ds : List D} {tr : TA} {ta : TE} {W : WX} {C : Addr} {ns : List Str} {m : Str} {E : WX} {P : Pst} {i : Nat}
theorem ev_obj {C : Addr} : EvD K (tC (.ref C)) ρ (.obj C) := ev_c fun _ => rfl
theorem eva_recv (ha : EvD K ta ρ (.ins C ns l)) (hm : m ∉ ns) (hr : EvA K tr ρ ds) : EvA K (tRecv C m ta tr) ρ (.ins C ns l :: ds) := fun M T0 H T σ X Q e q =>
  ha M T0 H T σ X _ e fun v H1 T1 s1 t1 e1 i1 => by
    obtain ⟨a, dx, vs, rfl, h1, h2⟩ := i1
    refine ⟨a, dx, _, rfl, e1.same _ _ h1, look_none hm, hr M T0 H1 T1 σ X _ e1 fun us H2 T2 s2 t2 e2 i2 => ?_⟩
    exact q _ H2 T2 (s1.trans s2) (t1.trans t2) e2 (.cons ((show Is K H1 (.ins C ns l) (.ref a) from ⟨a, dx, vs, rfl, h1, h2⟩).up s2) i2)
theorem ec_mkX {P : List D → (D → Prop) → (Exn → Prop) → Prop} (hr : EvA K tr ρ ds) (hp : P ds (fun d => d = z) (fun _ => False)) : EvC K (tMakeW C (spMk K C P) W tr) ρ z := fun M T0 H T σ X Q e q => ec_make (Ex := WE W σ) hr hp M T0 H T σ X Q e q
theorem ez_mkX {P : List D → (D → Prop) → (Exn → Prop) → Prop} {x : Exn} (hr : EvA K tr ρ ds) (hp : P ds (fun _ => False) (fun z' => z' = x)) : EvZ K W (tMakeW C (spMk K C P) W tr) ρ x := fun M T0 H T σ X Q e q =>
  hr M T0 H T σ X _ e fun vs H1 T1 s1 t1 e1 i1 => fun x dx hx hdx hne => by
    obtain ⟨L, r, o, f⟩ := e1.ex
    rw [List.append_nil]
    have hx1 : (upd T1 dx (.own x)) x = none := by rw [upd_ne (Ne.symm hne)]; exact hx
    refine ⟨x, dx, vs, _, H1, T1, ds, _, _, rfl, (o.opened (o := .own x) hdx).opened (o := .ins C dx []) hx1, i1, hx, hdx, (same_new hdx).trans (same_new hx1), hp, fun _ _ _ _ h => h.elim, fun c ns es od H' T' hz s' t' o' hxx => ?_⟩
    subst hz
    exact q od H' T' (s1.trans s') (t1.trans t') ⟨⟨L, r.up s', o', f⟩, e1.t0.trans t'⟩ hxx
/-- try: .. except x as n: .., x takes all that comes -/
theorem ws_tryA {tb : WX → TS} {ts : Addr → Value → Option Addr → TS} {c : Value} {Wout : WX} {Pc : Rho → Exn → Prop} (hb : ∀ W, Ws K W (tb W) ρ { P with ex := Pc })
    (hc : ∀ ρ' z, Pc ρ' z → PySem.W.exmOne K z.1 c = some true ∧ ∀ a od, Ws K E (ts a z.1 od) (ρ'.set i (.im (.exc a od z.2.1 z.2.2))) { nx := fun ρ2 => P.nx (ρ2.set i .no), rt := P.rt, bk := fun ρ2 => P.bk (ρ2.set i .no), ct := fun ρ2 => P.ct (ρ2.set i .no) }) :
    Ws K E (fun Dn σ H => tb (wAs K c i ts Wout Dn) Dn σ H) ρ P := fun M T0 H T σ Dn en k =>
  hb _ M T0 H T σ Dn en ⟨k.nx, k.rt, k.bk, k.ct, fun ρ' σ' cl ns es od H' T' hz s' e' hx => by
    obtain ⟨h1, h2⟩ := hc ρ' (cl, ns, es) hz
    refine ⟨true, h1, fun _ a ha => ?_, fun z => nomatch z⟩
    have e2 := EnX.set (i := i) (d := .exc a od ns es) (v := .ref a) e' ⟨rfl, hx⟩
    exact h2 a od M T0 H' T' _ _ e2 ⟨fun ρ2 σ2 H2 T2 p s2 en2 => k.nx _ _ H2 T2 p (s'.trans s2) en2.drop, fun s v H2 T2 p s2 => k.rt s v H2 T2 p (s'.trans s2), fun ρ2 σ2 H2 T2 p s2 en2 => k.bk _ _ H2 T2 p (s'.trans s2) en2.drop, fun ρ2 σ2 H2 T2 p s2 en2 => k.ct _ _ H2 T2 p (s'.trans s2) en2.drop, fun _ _ _ _ _ _ _ _ hz => hz.elim⟩⟩
end
section
variable {X : Cx} (K : PySem.W.Frag) {a : Addr} {cls : Value} {d : Option Addr} {oe : Obj}
theorem kIsX (hp : (a, oe) ∈ X.pn) (hz : L2N.Zn cls d oe) (hf : ∃ vs, oe.data = .fields vs) (hK : X.K = K := by rfl) : CallR X (.builtin "isinstance") (rIsX K a cls d) := hK ▸ call_isX hp hz hf
theorem kIsXT (hp : (a, oe) ∈ X.pn) (hz : L2N.Zn cls d oe) (hf : ∃ vs, oe.data = .fields vs) (hK : X.K = K := by rfl) : CallR X (.builtin "isinstance") (rIsXT K a cls d) := hK ▸ call_isXT hp hz hf
theorem kXf {i : Nat} {x f : Str} {p pos : Pos} (hp : (a, oe) ∈ X.pn) (hz : L2N.Zn cls d oe) (hf : ∃ vs, oe.data = .fields vs) (he : PE X (.Name x p) (tVar i)) (hK : X.K = K := by rfl) (hb : attributeBase (.Name x p) f X.env (eval (.Name x p) X.env) = eval (.Name x p) X.env := by rfl) :
    PE X (.Attribute (.Name x p) f pos) (tXf2 K a cls d f i) := hK ▸ pe_xf2 hp hz hf he hb
end

/-! ### classes of errors beside each other -/
section
variable {K : PySem.W.Frag} {D C : Addr}
theorem kit_T (s : PySem.W.subIn K (.ref D) (.ref C) = some true) (hd : PySem.W.hasDictIn K C = true) (ty : PySem.W.typeIn K (.ref C) = some (.type "type")) : PySem.W.kitOne K (.ref D) (.ref C) = some true := by
  unfold PySem.W.kitOne
  split
  · rfl
  · obtain ⟨cd, hc, _⟩ := PySem.W.any_some hd
    have hc' : PySem.W.clsIn K C = some cd := hc
    unfold PySem.W.kitCls
    simp [hc', ty, s]
theorem kit_F (s0 : PySem.W.subIn K (.ref D) (.ref D) = some true) (s : PySem.W.subIn K (.ref D) (.ref C) = some false) (hd : PySem.W.hasDictIn K C = true) (ty : PySem.W.typeIn K (.ref C) = some (.type "type")) : PySem.W.kitOne K (.ref D) (.ref C) = some false := by
  unfold PySem.W.kitOne
  rw [if_neg]
  · obtain ⟨cd, hc, _⟩ := PySem.W.any_some hd
    have hc' : PySem.W.clsIn K C = some cd := hc
    unfold PySem.W.kitCls
    simp [hc', ty, s]
  · intro e
    have e : D = C := Value.ref.inj (beq_iff_eq.mp e)
    subst e
    rw [s0] at s
    cases s
theorem kit_VE (s : PySem.W.subIn K (.ref D) (.type "ValueError") = some true) : PySem.W.kitOne K (.ref D) (.type "ValueError") = some true := by
  unfold PySem.W.kitOne
  split
  · rfl
  · unfold PySem.W.kitCls
    have e : PySem.W.kitMeta "ValueError" = true := by decide +kernel
    simp [e, s]
end

/-! ### defs that are called in a suite; the error there is at a, of the class c, its dict at d -/
open L2H
structure FnE (P : Program) (w : World) (K : PySem.W.Frag) (mg : Str → Option Value) (base : Heap) (CX : CXT) (k : Nat) (f : Addr) (fd : FuncData) (ps : List Str) (sp : Addr → Value → Option Addr → Sp) : Prop where
  len : ∀ a c d vs H Q E, sp a c d vs H Q E → vs.length = ps.length
  run : ∀ (A : Around) (outer : List Env) (s : Shared) (H : Hp) (args : Args) (us : List Value) (vs : List V) (Q : VK) (E : XK) (a : Addr) (oe : Obj) (c : Value) (d : Option Addr), RoomH k A → A.handled = some (.ref a) → L2N.Zn c d oe → (∃ fs, oe.data = .fields fs) → PinOk outer H s (a, oe) →
    Env0 P w K mg base A outer s H → BindsTo s fd args (ps.zip us) → Vals vs us → sp a c d vs H Q E → codeAny (model P w) A (.call (.ref f) args) (CR CX outer P w H s Q E) s
theorem fn_okE {CX : CXT} {P : Program} {w : World} {K : PySem.W.Frag} {mg : Str → Option Value} {base : Heap} {k : Nat} {x qual : Str} {st : Stmt} {f : Addr} {fd : FuncData} {N ps : List Str} {sp : Addr → Value → Option Addr → Sp} (F : Fun K x qual st f fd) (S : FnScope N ps (defScope st)) (len : ∀ a c d vs H Q E, sp a c d vs H Q E → vs.length = ps.length)
    (hbody : ∀ (cdv : Value) (A : Around) (outer : List Env) (s : Shared) (H : Hp) (vs : List V) (Q : VK) (E : XK) (a : Addr) (oe : Obj) (c : Value) (d : Option Addr), A.handled = some (.ref a) → L2N.Zn c d oe → (∃ fs, oe.data = .fields fs) → RoomH k (A.deeper (envOfC qual (defScope st) s.heap.objs.size f cdv)) → sp a c d vs H Q E →
      ∃ t, PSs (cxH CX P w K mg base N qual (defScope st) f cdv A outer s H E (a, oe)) (defBody st) t ∧ t { nx := fun _ H' => Q .non H', rt := Q } (L2.start N vs) H) : FnE P w K mg base CX (k + 1) f fd ps sp := by
  obtain ⟨oc, od, kV, doc, pm, an, cdv, ct, osl, rfl, lk, hcd⟩ := F.ex
  refine ⟨len, fun A outer s H args us vs Q E a oe c d hr hh hz hf hpin e0 hb r q0 => ?_⟩
  have kin : K.In s.heap := e0.mod.kin.keeps fun b o z => (e0.bs b o z).1
  have nol : s.heap.NoLimit := e0.mod.nolimit.keeps fun b o z => (e0.bs b o z).1
  refine codeAny_call_function hr.depth (kin _ _ lk) rfl S.co S.gen rfl (PySem.W.codeRec_of kin hcd) (hb _ _ _ _ (wpAny_newFunctionEnv_cells S.kind (fun y hy => ?_) fun env he s1 z => ?_))
  · rcases S.par y.1 (List.of_mem_zip (show (y.1, y.2) ∈ ps.zip us from hy)).1 with q | q
    · exact .inl q
    · exact .inr ⟨q, PySem.W.cellsFrom_some _ _ _ (.inl q)⟩
  subst he
  obtain ⟨t, ht, hq⟩ := hbody cdv A outer s H vs Q E a oe c d hh hz hf (hr.deeper _) q0
  have J := inv_startH (CX := CX) (E := E) S hpin e0 (len _ _ _ _ _ _ _ q0) r z
  refine ⟨nol.keeps z.toInCall.keep, codeAny_func (wpAny_mono (ht.run [] s1 (L2.start N vs) H _ J hq) (fun fl s' hs => ?_) fun _ _ hs => hs)⟩
  match fl with
  | .next =>
    obtain ⟨σ', H', I', q⟩ := hs
    exact ⟨V.non, H', I'.os, I'.bare, I'.base, I'.hok, rfl, q⟩
  | .ret u =>
    obtain ⟨v, σ', H', I', rv, q⟩ := hs
    exact ⟨v, H', I'.os, I'.bare, I'.base, I'.hok, rv, q⟩
  | .brk =>
    obtain ⟨_, _, _, q⟩ := hs
    exact q.elim
  | .cont =>
    obtain ⟨_, _, _, q⟩ := hs
    exact q.elim
structure FnGE (P : Program) (w : World) (K : PySem.W.Frag) (mg : Str → Option Value) (base : Heap) (k : Nat) (x : Str) (ps : List Str) (sp : Addr → Value → Option Addr → Sp) : Prop where
  ex : ∃ f fd, FnE P w K mg base CX0 k f fd ps sp ∧ mg x = some (.ref f) ∧ PySem.W.keepIn K (.ref f) = true ∧ Binds K fd ps []
section
variable {X : Cx} {k : Nat} {x : Str} {ps : List Str} {sp : Addr → Value → Option Addr → Sp} {e : Expr} {es : List Expr} {t : TA} {p pos : Pos} {a : Addr} {oe : Obj} {cls : Value} {d : Option Addr}
/-- f(e, ..) where an error is handled -/
theorem pe_hE (G : FnGE X.prog X.w X.K X.mg X.base k x ps sp) (hr : RoomH k X.A) (hp : (a, oe) ∈ X.pn) (hh : X.A.handled = some (.ref a)) (hz : L2N.Zn cls d oe) (hf : ∃ vs, oe.data = .fields vs) (ha : PA X (e :: es) t) (hg : Gl X x := by rfl) (hdb : (x == ("__debug__" : Str)) = false := by decide)
    (he : starEach (e :: es) X.env = (false, eval e X.env) :: starEach es X.env := by rfl) (hpl : (backTo pos (starEach es X.env)).any (·.1) = false := by rfl) : PE X (.Call (.Name x p) (e :: es) [] pos) (tCall (sp a cls d) [] E0 t) := ⟨fun pins s σ H Q I h => by
  obtain ⟨f, fd, F, hm, hk, hb⟩ := G.ex
  refine wpAny_Call_Name_kw (ld_glob I hg hm (PySem.W.callWith_K (h₀ := X.base) I.ok.mod.kin hk (thn (ha.run pos pins s σ H _ I h) ?_) he hpl) hdb)
  rintro us s1 ⟨vs, H1, I1, r, q⟩
  refine ⟨I1.kIn, ?_⟩
  rw [List.append_nil] at q
  have hb2 := hb s1 us I1.kIn (by rw [List.append_nil]; exact r.length.symm.trans (F.len _ _ _ _ _ _ _ q))
  rw [List.append_nil] at hb2
  obtain ⟨p1, p2, p3, p4, p5⟩ := I1.pin (a, oe) (List.mem_append_left _ hp)
  refine wpAny_call (codeAny_mono (F.run X.A X.stack s1 H1 ⟨us, []⟩ us vs _ _ a oe cls d hr hh hz hf ⟨p1, p2, fun hm => (List.mem_cons.mp (I1.stkSub a hm)).elim p3 p4, p5⟩ I1.env0 hb2 r q) fun r s' z => ?_)
  match r with
  | .error er => exact False.elim z
  | .ok (.ret u) => exact I1.after z
  | .ok .next => exact False.elim z
  | .ok .brk => exact False.elim z
  | .ok .cont => exact False.elim z⟩
end
section
variable {P : Program} {w : World} {K : PySem.W.Frag} {mg : Str → Option Value} {base : Heap} {x : Str} {st : Stmt} {N ps : List Str} {k : Nat} {Pr : Addr → Value → Option Addr → PrD}
theorem Df.okE (F : Df K mg x st ps) (S : FnScope N ps (defScope st)) (len : ∀ a c d ds R Z, Pr a c d ds R Z → ds.length = ps.length)
    (hbody : ∀ (f : Addr) (cdv : Value) (A : Around) (outer : List Env) (s : Shared) (H : Hp) (E : XK) (a : Addr) (oe : Obj) (c : Value) (d : Option Addr), A.handled = some (.ref a) → L2N.Zn c d oe → (∃ fs, oe.data = .fields fs) → RoomH k (A.deeper (envOfC x (defScope st) s.heap.objs.size f cdv)) →
      ∃ t, PSs (cxH CX0 P w K mg base N x (defScope st) f cdv A outer s H E (a, oe)).nox (defBody st) t ∧ ∀ ds R Z, Pr a c d ds R Z → Ws K (upX E) t (ds.map .im ++ List.replicate (N.length - ds.length) .no) { nx := fun _ => R (.im .non), rt := R, ex := fun _ => Z }) :
    FnGE P w K mg base (k + 1) x ps fun a c d => spD K (Pr a c d) := by
  obtain ⟨f, fd, F, hm, hb⟩ := F.ex
  refine ⟨f, fd, fn_okE F S (fun a c d vs H Q E h => len_fn (len a c d) h) (fun cdv A outer s H vs Q E a oe c d hh hz hf hr h => ?_), hm, F.kp, hb⟩
  obtain ⟨t, h1, h2⟩ := hbody f cdv A outer s H E a oe c d hh hz hf hr
  exact ⟨t, h1.nox, read_fn h h2⟩
end
end FS
set_option Elab.async false
set_option linter.all false
set_option maxRecDepth 100000
set_option maxHeartbeats 4000000
/-! Loops and comprehensions, told by the slots that change. -/
namespace FS
open PySem PySem.Spec PyProof.Rows L2
/-- some slots changed -/
def up : Rho → List (Nat × Sl) → Rho
  | ρ, [] => ρ
  | ρ, (i, s) :: r => up (ρ.set i s) r
section
variable {K : PySem.W.Frag} {E : L2.WX} {ρ : Rho} {P : Pst} {t tz tb : TS} {ta : TA} {tl te : TE} {tt : TT} {wi : TI} {g : TG} {j n : Nat} {α : Type} {xs : List α} {enc : α → D} {d : D}
theorem src_n (h : EvA K ta ρ [.int (n : Int)]) (hn : n ≤ 1000000) : SrcD K (iRng1 ta) ρ ((List.range n).map fun k : Nat => D.int (k : Int)) := by
  have e : (List.range n).map (fun k : Nat => D.int (k : Int)) = rng 0 ((n : Int)).toNat := by
    rw [Int.toNat_natCast]
    unfold rng
    refine List.map_congr_left fun k _ => ?_
    rw [Int.zero_add]
  rw [e]
  exact src_rng1 h (by omega)
theorem wq_cut (u : List (Nat × Sl)) (h : Ws K E t ρ { P with nx := fun ρ' => ρ' = up ρ u }) (h2 : Ws K E tz (up ρ u) P) : Ws K E (tSeq t tz) ρ P := ws_cut (up ρ u) h h2
theorem ws_forU (hs : SrcD K wi ρ (xs.map enc)) (V : Nat → List (Nat × Sl) → Prop) (h0 : ∃ u, V 0 u ∧ up ρ u = ρ)
    (hb : ∀ i x u, xs[i]? = some x → V i u → ∃ as, GDs K g (enc x) as ∧ Ws K E tb (setD (up ρ u) as) { P with nx := fun ρ' => ∃ u', V (i + 1) u' ∧ up ρ u' = ρ', ct := fun ρ' => ∃ u', V (i + 1) u' ∧ up ρ u' = ρ', bk := P.nx })
    (hd : ∀ u, V xs.length u → P.nx (up ρ u)) : Ws K E (tFor wi g tb) ρ P := by
  refine ws_for hs (fun i ρ' => ∃ u, V i u ∧ up ρ u = ρ') h0 ?_ ?_
  · rintro i d ρ' hx ⟨u, hv, rfl⟩
    obtain ⟨x, h1, rfl⟩ := map_get hx
    exact hb i x u h1 hv
  · rintro ρ' ⟨u, hv, rfl⟩
    rw [List.length_map] at hv
    exact hd u hv
theorem ws_forL (hs : EvD K tl ρ (.lst (xs.map enc))) (V : Nat → List (Nat × Sl) → Prop) (h0 : ∃ u, V 0 u ∧ up ρ u = ρ)
    (hb : ∀ i x u, xs[i]? = some x → V i u → Ws K E tb ((up ρ u).set j (.im (enc x))) { P with nx := fun ρ' => ∃ u', V (i + 1) u' ∧ up ρ u' = ρ', ct := fun ρ' => ∃ u', V (i + 1) u' ∧ up ρ u' = ρ', bk := P.nx })
    (hd : ∀ u, V xs.length u → P.nx (up ρ u)) : Ws K E (tFor (iList K tl) (gName j) tb) ρ P :=
  ws_forU (src_list hs) V h0 (fun i x u h1 h2 => ⟨_, gd_name, hb i x u h1 h2⟩) hd
theorem ws_forN (hs : EvA K ta ρ [.int (n : Int)]) (hn : n ≤ 1000000) (V : Nat → List (Nat × Sl) → Prop) (h0 : ∃ u, V 0 u ∧ up ρ u = ρ)
    (hb : ∀ i u, i < n → V i u → Ws K E tb ((up ρ u).set j (.im (.int (i : Int)))) { P with nx := fun ρ' => ∃ u', V (i + 1) u' ∧ up ρ u' = ρ', ct := fun ρ' => ∃ u', V (i + 1) u' ∧ up ρ u' = ρ', bk := P.nx })
    (hd : ∀ u, V n u → P.nx (up ρ u)) : Ws K E (tFor (iRng1 ta) (gName j) tb) ρ P := by
  refine ws_forU (src_n hs hn) V h0 (fun i x u h1 h2 => ⟨_, gd_name, ?_⟩) (fun u h => hd u (by rwa [List.length_range] at h))
  obtain ⟨hi, rfl⟩ := List.getElem?_eq_some_iff.mp h1
  rw [List.getElem_range]
  exact hb i u (by rwa [List.length_range] at hi) h2
theorem wq_forL (hs : EvD K tl ρ (.lst (xs.map enc))) (V : Nat → List (Nat × Sl) → Prop) (h0 : ∃ u, V 0 u ∧ up ρ u = ρ)
    (hb : ∀ i x u, xs[i]? = some x → V i u → Ws K E tb ((up ρ u).set j (.im (enc x))) { P with nx := fun ρ' => ∃ u', V (i + 1) u' ∧ up ρ u' = ρ', ct := fun ρ' => ∃ u', V (i + 1) u' ∧ up ρ u' = ρ', bk := fun ρ' => Ws K E tz ρ' P })
    (hd : ∀ u, V xs.length u → Ws K E tz (up ρ u) P) : Ws K E (tSeq (tFor (iList K tl) (gName j) tb) tz) ρ P := ws_seq (ws_forL hs V h0 hb hd)
theorem wq_forN (hs : EvA K ta ρ [.int (n : Int)]) (hn : n ≤ 1000000) (V : Nat → List (Nat × Sl) → Prop) (h0 : ∃ u, V 0 u ∧ up ρ u = ρ)
    (hb : ∀ i u, i < n → V i u → Ws K E tb ((up ρ u).set j (.im (.int (i : Int)))) { P with nx := fun ρ' => ∃ u', V (i + 1) u' ∧ up ρ u' = ρ', ct := fun ρ' => ∃ u', V (i + 1) u' ∧ up ρ u' = ρ', bk := fun ρ' => Ws K E tz ρ' P })
    (hd : ∀ u, V n u → Ws K E tz (up ρ u) P) : Ws K E (tSeq (tFor (iRng1 ta) (gName j) tb) tz) ρ P := ws_seq (ws_forN hs hn V h0 hb hd)
theorem wipe1 (d : D) : setD (wipeD ρ [j]) [(j, d)] = ρ.set j (.im d) := by
  show (ρ.set j .no).set j (.im d) = _
  rw [List.set_set]
/-- [e for x in xs], xs a known list: the values known -/
theorem lc_L (e : α → D) (hs : EvD K tl ρ (.lst (xs.map enc))) (hv : isOw ρ[j]? = false) (ht : ∀ x ∈ xs, EvD K te (ρ.set j (.im (enc x))) (e x)) (hz : xs.length ≤ 100000) : EvO K (tLc (iList K tl) (gName j) tYes te [j]) ρ (xs.map e) :=
  evo_map e (src_list hs) (fun i hi => by rw [List.mem_singleton.mp hi]; exact hv) (fun x hx => ⟨_, gd_name, by simp, by rw [wipe1]; exact ht x hx⟩) hz
theorem lc_N (e : Nat → D) (hs : EvA K ta ρ [.int (n : Int)]) (hv : isOw ρ[j]? = false) (ht : ∀ k, k < n → EvD K te (ρ.set j (.im (.int (k : Int)))) (e k)) (hz : n ≤ 100000) : EvO K (tLc (iRng1 ta) (gName j) tYes te [j]) ρ ((List.range n).map e) :=
  evo_map e (src_n hs (by omega)) (fun i hi => by rw [List.mem_singleton.mp hi]; exact hv) (fun k hk => ⟨_, gd_name, by simp, by rw [wipe1]; exact ht k (List.mem_range.mp hk)⟩) (by rw [List.length_range]; exact hz)
theorem lcf_L (f : α → Bool) (e : α → D) (hs : EvD K tl ρ (.lst (xs.map enc))) (hv : isOw ρ[j]? = false) (ht : ∀ x ∈ xs, EvT K tt (ρ.set j (.im (enc x))) (f x) ∧ (f x = true → EvD K te (ρ.set j (.im (enc x))) (e x))) (hz : xs.length ≤ 100000) : EvO K (tLc (iList K tl) (gName j) tt te [j]) ρ ((xs.filter f).map e) :=
  evo_lc f e (src_list hs) (fun i hi => by rw [List.mem_singleton.mp hi]; exact hv) (fun x hx => ⟨_, gd_name, by simp, by rw [wipe1]; exact (ht x hx).1, fun q => by rw [wipe1]; exact (ht x hx).2 q⟩) hz
theorem lcf_N (f : Nat → Bool) (e : Nat → D) (hs : EvA K ta ρ [.int (n : Int)]) (hv : isOw ρ[j]? = false) (ht : ∀ k, k < n → EvT K tt (ρ.set j (.im (.int (k : Int)))) (f k) ∧ (f k = true → EvD K te (ρ.set j (.im (.int (k : Int)))) (e k))) (hz : n ≤ 100000) : EvO K (tLc (iRng1 ta) (gName j) tt te [j]) ρ (((List.range n).filter f).map e) :=
  evo_lc f e (src_n hs (by omega)) (fun i hi => by rw [List.mem_singleton.mp hi]; exact hv) (fun k hk => ⟨_, gd_name, by simp, by rw [wipe1]; exact (ht k (List.mem_range.mp hk)).1, fun q => by rw [wipe1]; exact (ht k (List.mem_range.mp hk)).2 q⟩) (by rw [List.length_range]; exact hz)
/-- .. the values open -/
theorem lc_LC (e : α → D) (hs : EvD K tl ρ (.lst (xs.map enc))) (hv : isOw ρ[j]? = false) (ht : ∀ x ∈ xs, EvC K te (ρ.set j (.im (enc x))) (e x)) (hz : xs.length ≤ 100000) : EvC K (tLc (iList K tl) (gName j) tYes te [j]) ρ (.lst (xs.map e)) :=
  ec_map e (src_list hs) (fun i hi => by rw [List.mem_singleton.mp hi]; exact hv) (fun x hx => ⟨_, gd_name, by simp, by rw [wipe1]; exact ht x hx⟩) hz
theorem lc_NC (e : Nat → D) (hs : EvA K ta ρ [.int (n : Int)]) (hv : isOw ρ[j]? = false) (ht : ∀ k, k < n → EvC K te (ρ.set j (.im (.int (k : Int)))) (e k)) (hz : n ≤ 100000) : EvC K (tLc (iRng1 ta) (gName j) tYes te [j]) ρ (.lst ((List.range n).map e)) :=
  ec_map e (src_n hs (by omega)) (fun i hi => by rw [List.mem_singleton.mp hi]; exact hv) (fun k hk => ⟨_, gd_name, by simp, by rw [wipe1]; exact ht k (List.mem_range.mp hk)⟩) (by rw [List.length_range]; exact hz)
/-- a list's item, by a natural place -/
theorem at_f {f : α → D} {l : List α} {k : Nat} (h : k < l.length) : atI (l.map f) (k : Int) = some (f l[k]) := at_map (List.getElem?_eq_getElem h)
end
end FS
set_option Elab.async false
set_option linter.all false
set_option maxRecDepth 100000
set_option maxHeartbeats 4000000
/-! Slices, pops, places, the lesser of two. -/
namespace FS
open PySem PySem.Spec PyProof.Rows L2
theorem _root_.L2.Room.units65 {k : Nat} {A : Around} (r : L2.Room k A) : A.units + 65 < cLine := by have := r.un; omega
section
variable {K : PySem.W.Frag} {E : L2.WX} {ρ : Rho} {P : Pst} {te ta tb to : TE} {tz : TS} {d y : D} {l : List D} {i j n : Nat} {π : List Nat}
theorem rc_min2 {i j : Int} : RcD K (fun xs H Q => ∃ i j, xs = [.int i, .int j] ∧ Q (.int (if j < i then j else i)) H) [.int i, .int j] (.int (min i j)) := fun H T vs Q s h q => by
  obtain ⟨v, w, rfl, hv, hw⟩ := isL_two h
  refine ⟨i, j, by rw [show v = V.int i from hv, show w = V.int j from hw], q _ ?_⟩
  show V.int _ = V.int _
  congr 1
  split <;> omega
theorem rc_max2 {i j : Int} : RcD K (fun xs H Q => ∃ i j, xs = [.int i, .int j] ∧ Q (.int (if j > i then j else i)) H) [.int i, .int j] (.int (max i j)) := fun H T vs Q s h q => by
  obtain ⟨v, w, rfl, hv, hw⟩ := isL_two h
  refine ⟨i, j, by rw [show v = V.int i from hv, show w = V.int j from hw], q _ ?_⟩
  show V.int _ = V.int _
  congr 1
  split <;> omega
/-! slices of known lists -/
theorem isL_ints2 {H : Hp} (ns : List Int) : IsL K H (ns.map .int) (ns.map V.int) := isL_ints ns
/-- a known list, or the script -/
def lstOf : D → Option (List D)
  | .lst l => some l
  | .scr ns => some (ns.map .int)
  | _ => none
theorem lst_is {H : Hp} {v : V} (e : lstOf d = some l) (h : Is K H d v) : ∃ a vs, v = .ref a ∧ SqL K H a vs ∧ IsL K H l vs := by
  cases d with
  | lst l' =>
    cases (show some l' = some l from e)
    obtain ⟨a, vs, h1, h2, h3⟩ := h
    exact ⟨a, vs, h1, .inl (.inl h2), h3⟩
  | scr ns =>
    cases (show some (ns.map D.int) = some l from e)
    obtain ⟨a, h1, h2⟩ := h
    exact ⟨a, _, h1, h2, isL_ints ns⟩
  | _ => cases e
theorem ev_slF {k : Nat} (h : EvD K te ρ d) (e : lstOf d = some l) (hb : EvD K tb ρ (.int (k : Int))) : EvO K (tSl (rSlL K) te (tPart tb) tNoPart) ρ (l.drop k) := fun M T0 H T σ X Q en q =>
  h M T0 H T σ X _ en fun v H1 T1 s1 t1 e1 i1 => hb M T0 H1 T1 σ X _ e1 fun w H2 T2 s2 t2 e2 i2 => by
    refine ⟨(k : Int), i2, ?_⟩
    obtain ⟨a, vs, rfl, h1, h2⟩ := lst_is e (i1.up s2)
    refine ⟨a, vs, rfl, e2.same.seq h1, fun p hp => q p _ H2 _ (s1.trans s2) (t1.trans (t2.trans (same_new hp))) (e2.opened hp) ?_⟩
    unfold cutV
    rw [HT.sIx_nat, HT.sIx_none]
    have e3 : (vs.drop (min k vs.length)).take (vs.length - min k vs.length) = vs.drop k := by
      rw [List.take_of_length_le (by rw [List.length_drop]; exact Nat.le_refl _)]
      rcases Nat.le_total k vs.length with z | z
      · rw [Nat.min_eq_left z]
      · rw [Nat.min_eq_right z, List.drop_length, List.drop_eq_nil_of_le z]
    rw [e3]
    exact h2.drop k
theorem ev_slT {k : Nat} (h : EvD K te ρ d) (e : lstOf d = some l) (hb : EvD K tb ρ (.int (k : Int))) : EvO K (tSl (rSlL K) te tNoPart (tPart tb)) ρ (l.take k) := fun M T0 H T σ X Q en q =>
  h M T0 H T σ X _ en fun v H1 T1 s1 t1 e1 i1 => hb M T0 H1 T1 σ X _ e1 fun w H2 T2 s2 t2 e2 i2 => by
    refine ⟨(k : Int), i2, ?_⟩
    obtain ⟨a, vs, rfl, h1, h2⟩ := lst_is e (i1.up s2)
    refine ⟨a, vs, rfl, e2.same.seq h1, fun p hp => q p _ H2 _ (s1.trans s2) (t1.trans (t2.trans (same_new hp))) (e2.opened hp) ?_⟩
    unfold cutV
    rw [HT.sIx_nat, HT.sIx_none, List.drop_zero, Nat.sub_zero]
    have e3 : vs.take (min k vs.length) = vs.take k := by
      rcases Nat.le_total k vs.length with z | z
      · rw [Nat.min_eq_left z]
      · rw [Nat.min_eq_right z, List.take_length, List.take_of_length_le z]
    rw [e3]
    exact h2.take k
/-! pops -/
theorem erase_part {H : Hp} : ∀ {l : List D} {vs : List V} {L : Op} (k : Nat), IsCL K H l vs L → ∃ L', IsCL K H (l.eraseIdx k) (vs.eraseIdx k) L' ∧ L'.Sublist L
  | [], _, _, k, h => ⟨[], by rw [h.1]; exact ⟨rfl, rfl⟩, List.nil_sublist _⟩
  | _ :: l, _, _, 0, ⟨v, r, L1, L2, e, eL, h1, h2⟩ => by
    rw [e, eL]
    exact ⟨L2, h2, List.sublist_append_right _ _⟩
  | x :: l, _, _, k + 1, ⟨v, r, L1, L2, e, eL, h1, h2⟩ => by
    obtain ⟨L', g1, g2⟩ := erase_part k h2
    rw [e, eL]
    exact ⟨L1 ++ L', ⟨v, _, L1, L', rfl, rfl, h1, g1⟩, (List.Sublist.refl _).append g2⟩
theorem drop_erase {α : Type} (l : List α) : l.dropLast = l.eraseIdx (l.length - 1) := by
  rcases List.eq_nil_or_concat l with rfl | ⟨a, b, rfl⟩
  · rfl
  · rw [List.concat_eq_append, List.dropLast_concat, List.eraseIdx_append_of_length_le (by simp)]
    simp
/-- PATH.pop(), of a list that has items -/
theorem ws_popP (e : ρ[i]? = some (.cl d)) (hp : EvL K to ρ i π) (hd : D.at π d = some (.lst l)) (hl0 : 0 < l.length) (h : P.nx (ρ.set i (.cl (D.put π d (.lst l.dropLast))))) : Ws K E (tDrop (tBM0 K "list" rPop to)) ρ P := fun M T0 H T σ Dn en k =>
  hp M T0 H T σ [] _ en fun u H1 T1 s1 t1 e1 ⟨v, n1, n2⟩ => by
    obtain ⟨v', u', Ls, L0, h1, ⟨a, vs, Lt, eu, eL, hl⟩, h3, h4, h5⟩ := e1.spot e hd
    rw [n1] at h1
    cases h1
    cases Nav.eq n2 h3
    subst eu
    subst eL
    have hT : T1 a = some (.lst vs) := h4.here rfl (a, .lst vs) List.mem_cons_self
    have hvl := hl.len
    refine ⟨.inl ⟨rfl, vs, .inl (.inl hT)⟩, a, vs, vs[vs.length - 1]'(by omega), rfl, rfl, hT, List.getElem?_eq_getElem _, k.nx _ σ H1 _ h s1 ?_⟩
    obtain ⟨L', g1, g2⟩ := erase_part (vs.length - 1) hl
    have g1' : IsCL K H1 l.dropLast vs.dropLast L' := by
      rw [drop_erase, drop_erase, ← hvl]
      exact g1
    refine h5 H1 _ [] (.lst l.dropLast) ((a, .lst vs.dropLast) :: L') (Same.refl _) ?_ ⟨a, _, _, rfl, rfl, g1'⟩
    have g6 := EnX.write (o' := .lst vs.dropLast) h4
    exact g6.sub (List.Sublist.cons_cons _ (g2.append (List.Sublist.refl _)))
/-- PATH.pop(k) -/
theorem ws_popAtP {k : Nat} (e : ρ[i]? = some (.cl d)) (hp : EvL K to ρ i π) (hd : D.at π d = some (.lst l)) (hb : EvD K tb ρ (.int (k : Int))) (hk : k < l.length) (hk2 : k < 2 ^ 62) (h : P.nx (ρ.set i (.cl (D.put π d (.lst (l.eraseIdx k)))))) : Ws K E (tDrop (tBM K "list" rPopAt to (tCons tb tNil))) ρ P := fun M T0 H T σ Dn en kk =>
  hp M T0 H T σ [] _ en fun u H1 T1 s1 t1 e1 ⟨v, n1, n2⟩ => by
    obtain ⟨v', u', Ls, L0, h1, ⟨a, vs, Lt, eu, eL, hl⟩, h3, h4, h5⟩ := e1.spot e hd
    rw [n1] at h1
    cases h1
    cases Nav.eq n2 h3
    subst eu
    have hT : T1 a = some (.lst vs) := h4.here rfl (a, .lst vs) (by rw [eL]; exact List.mem_cons_self)
    refine ⟨.inl ⟨rfl, vs, .inl (.inl hT)⟩, hb M T0 H1 T1 σ [] _ e1 fun w H2 T2 s2 t2 e2 i2 => ?_⟩
    obtain ⟨v2, u2, Ls2, L02, g1, ⟨a2, vs2, Lt2, eu2, eL2, hl2⟩, g3, g4, g5⟩ := e2.spot e hd
    rw [n1] at g1
    cases g1
    have ea := Nav.eq (h3.up t2) g3
    rw [eu2] at ea
    cases ea
    subst eu2
    subst eL2
    have hT2 : T2 a = some (.lst vs2) := g4.here rfl (a, .lst vs2) List.mem_cons_self
    have hvl := hl2.len
    refine ⟨a, vs2, (k : Int), k, vs2[k]'(by omega), rfl, by rw [show w = V.int _ from i2], hT2, by omega, by omega, ?_, List.getElem?_eq_getElem _, kk.nx _ σ H2 _ h (s1.trans s2) ?_⟩
    · rw [seqIndex_of (by omega) (by omega), Int.toNat_natCast]
    obtain ⟨L', q1, q2⟩ := erase_part k hl2
    refine g5 H2 _ [] (.lst (l.eraseIdx k)) ((a, .lst (vs2.eraseIdx k)) :: L') (Same.refl _) ?_ ⟨a, _, _, rfl, rfl, q1⟩
    have g6 := EnX.write (o' := .lst (vs2.eraseIdx k)) g4
    exact g6.sub (List.Sublist.cons_cons _ (q2.append (List.Sublist.refl _)))
/-! places -/
theorem ev_indexD (ha : EvD K ta ρ (.lst l)) (hb : EvD K tb ρ y) (hl : D.flatL n l = true) (hy : y.flat n = true) (hn : n < 60) (hj : l[j]? = some y) (h0 : ∀ m z, m < j → l[m]? = some z → PyData.eqv z.py y.py = false) : EvD K (tBM K "list" (rIndexD K) ta (tCons tb tNil)) ρ (.int (j : Int)) := fun M T0 H T σ X Q e q =>
  ha M T0 H T σ X _ e fun v H1 T1 s1 t1 e1 i1 => by
    have i1' := i1
    obtain ⟨a, vs, rfl, h1, h2⟩ := i1'
    refine ⟨.inl ⟨rfl, vs, .inl (.inl (e1.same _ _ h1))⟩, hb M T0 H1 T1 σ X _ e1 fun w H2 T2 s2 t2 e2 i2 => ?_⟩
    have hf : (D.lst l).flat (n + 1) = true := hl
    have hd1 := is_dp (n + 1) (.lst l) (.ref a) hf ((i1.up s2).up e2.same)
    have hd2 := is_dp n y w hy (i2.up e2.same)
    refine ⟨a, w, y.py, D.pyL l, j, y.py, rfl, rfl, hd1, hd2, py_shaped hf (by omega), py_shaped hy (by omega), ?_, SeqAt.eqv_refl _ (py_can n y hy).1, fun m z' hm hz => ?_, q _ H2 T2 (s1.trans s2) (t1.trans t2) e2 rfl⟩
    · rw [pyL_map, List.getElem?_map, hj]
      rfl
    · rw [pyL_map, List.getElem?_map] at hz
      cases hx : l[m]? with
      | none => rw [hx] at hz; cases hz
      | some x =>
        rw [hx] at hz
        cases hz
        exact h0 m x hm hx
end
end FS
set_option Elab.async false
set_option linter.all false
set_option maxRecDepth 100000
set_option maxHeartbeats 4000000
set_option exponentiation.threshold 20000
namespace FS
open PySem PySem.Spec PyProof.Rows L2

def topS (i : Nat) : Stmt := PySem.Challenge.pw_fairstart_k29_games_and_outcomes.main.body.getD i (.Pass ⟨0, 0, 0, 0⟩)
abbrev s_NoPerson_init : Stmt := inClass (topS 2) 0
abbrev N_NoPerson_init : List Str := ["self", "person"]
theorem sc_NoPerson_init : FnScope ["self", "person"] ["self", "person"] (defScope s_NoPerson_init) := ⟨rfl, rfl, rfl, by decide +kernel, rfl, by decide +kernel, by decide +kernel⟩
abbrev s_NoWorld_init : Stmt := inClass (topS 3) 0
abbrev N_NoWorld_init : List Str := ["self", "world"]
theorem sc_NoWorld_init : FnScope ["self", "world"] ["self", "world"] (defScope s_NoWorld_init) := ⟨rfl, rfl, rfl, by decide +kernel, rfl, by decide +kernel, by decide +kernel⟩
abbrev s_NoChoice_init : Stmt := inClass (topS 5) 0
abbrev N_NoChoice_init : List Str := ["self", "choice"]
theorem sc_NoChoice_init : FnScope ["self", "choice"] ["self", "choice"] (defScope s_NoChoice_init) := ⟨rfl, rfl, rfl, by decide +kernel, rfl, by decide +kernel, by decide +kernel⟩
abbrev s_check_player : Stmt := topS 11
abbrev N_check_player : List Str := ["game", "person"]
theorem sc_check_player : FnScope ["game", "person"] ["game", "person"] (defScope s_check_player) := ⟨rfl, rfl, rfl, by decide +kernel, rfl, by decide +kernel, by decide +kernel⟩
abbrev s_check_outcome : Stmt := topS 12
abbrev N_check_outcome : List Str := ["game", "outcome"]
theorem sc_check_outcome : FnScope ["game", "outcome"] ["game", "outcome"] (defScope s_check_outcome) := ⟨rfl, rfl, rfl, by decide +kernel, rfl, by decide +kernel, by decide +kernel⟩
abbrev s_check_choice : Stmt := topS 13
abbrev N_check_choice : List Str := ["game", "person", "choice"]
theorem sc_check_choice : FnScope ["game", "person", "choice"] ["game", "person", "choice"] (defScope s_check_choice) := ⟨rfl, rfl, rfl, by decide +kernel, rfl, by decide +kernel, by decide +kernel⟩
abbrev s_counted : Stmt := topS 14
abbrev N_counted : List Str := ["choices", "outcomes", "many"]
theorem sc_counted : FnScope ["choices", "outcomes", "many"] ["choices"] (defScope s_counted) := ⟨rfl, rfl, rfl, by decide +kernel, rfl, by decide +kernel, by decide +kernel⟩
abbrev s_check_pays : Stmt := topS 15
abbrev N_check_pays : List Str := ["pays", "people", "outcomes", "row", "amount"]
theorem sc_check_pays : FnScope ["pays", "people", "outcomes", "row", "amount"] ["pays", "people", "outcomes"] (defScope s_check_pays) := ⟨rfl, rfl, rfl, by decide +kernel, rfl, by decide +kernel, by decide +kernel⟩
abbrev s_Game_init : Stmt := inClass (topS 16) 0
abbrev N_Game_init : List Str := ["self", "choices", "pays", "row", "step", "many"]
theorem sc_Game_init : FnScope ["self", "choices", "pays", "row", "step", "many"] ["self", "choices", "pays"] (defScope s_Game_init) := ⟨rfl, rfl, rfl, by decide +kernel, rfl, by decide +kernel, by decide +kernel⟩
abbrev s_Game_choices : Stmt := inClass (topS 16) 1
abbrev N_Game_choices : List Str := ["self"]
theorem sc_Game_choices : FnScope ["self"] ["self"] (defScope s_Game_choices) := ⟨rfl, rfl, rfl, by decide +kernel, rfl, by decide +kernel, by decide +kernel⟩
abbrev s_Game_chosen : Stmt := inClass (topS 16) 2
abbrev N_Game_chosen : List Str := ["self", "person", "outcome"]
theorem sc_Game_chosen : FnScope ["self", "person", "outcome"] ["self", "person", "outcome"] (defScope s_Game_chosen) := ⟨rfl, rfl, rfl, by decide +kernel, rfl, by decide +kernel, by decide +kernel⟩
abbrev s_Game_pay : Stmt := inClass (topS 16) 3
abbrev N_Game_pay : List Str := ["self", "person", "outcome"]
theorem sc_Game_pay : FnScope ["self", "person", "outcome"] ["self", "person", "outcome"] (defScope s_Game_pay) := ⟨rfl, rfl, rfl, by decide +kernel, rfl, by decide +kernel, by decide +kernel⟩
abbrev s_Game_switched : Stmt := inClass (topS 16) 4
abbrev N_Game_switched : List Str := ["self", "person", "outcome", "choice", "before"]
theorem sc_Game_switched : FnScope ["self", "person", "outcome", "choice", "before"] ["self", "person", "outcome", "choice"] (defScope s_Game_switched) := ⟨rfl, rfl, rfl, by decide +kernel, rfl, by decide +kernel, by decide +kernel⟩
abbrev s_Game_sights : Stmt := inClass (topS 16) 5
abbrev N_Game_sights : List Str := ["self", "person", "outcome"]
theorem sc_Game_sights : FnScope ["self", "person", "outcome"] ["self"] (defScope s_Game_sights) := ⟨rfl, rfl, rfl, by decide +kernel, rfl, by decide +kernel, by decide +kernel⟩
abbrev s_law_cell : Stmt := topS 18
abbrev N_law_cell : List Str := ["script", "k"]
theorem sc_law_cell : FnScope ["script", "k"] ["script", "k"] (defScope s_law_cell) := ⟨rfl, rfl, rfl, by decide +kernel, rfl, by decide +kernel, by decide +kernel⟩
abbrev s_law_draws : Stmt := topS 19
abbrev N_law_draws : List Str := ["cell", "sizes", "told", "rest", "size", "seed", "k", "mixed"]
theorem sc_law_draws : FnScope ["cell", "sizes", "told", "rest", "size", "seed", "k", "mixed"] ["cell", "sizes"] (defScope s_law_draws) := ⟨rfl, rfl, rfl, by decide +kernel, rfl, by decide +kernel, by decide +kernel⟩
abbrev s_law_same : Stmt := topS 20
abbrev N_law_same : List Str := ["actual", "due", "k"]
theorem sc_law_same : FnScope ["actual", "due", "k"] ["actual", "due"] (defScope s_law_same) := ⟨rfl, rfl, rfl, by decide +kernel, rfl, by decide +kernel, by decide +kernel⟩
abbrev s_law_game : Stmt := topS 21
abbrev N_law_game : List Str := ["script", "shape", "choices", "outcomes", "k", "many", "most", "pays", "person", "row", "n"]
theorem sc_law_game : FnScope ["script", "shape", "choices", "outcomes", "k", "many", "most", "pays", "person", "row", "n"] ["script"] (defScope s_law_game) := ⟨rfl, rfl, rfl, by decide +kernel, rfl, by decide +kernel, by decide +kernel⟩
abbrev s_law_spoilt : Stmt := topS 22
abbrev N_law_spoilt : List Str := ["choices", "pays", "drawn", "kind", "person", "outcome", "four", "none", "five", "more", "other", "many", "n", "p", "k", "rows", "row"]
theorem sc_law_spoilt : FnScope ["choices", "pays", "drawn", "kind", "person", "outcome", "four", "none", "five", "more", "other", "many", "n", "p", "k", "rows", "row"] ["choices", "pays", "drawn"] (defScope s_law_spoilt) := ⟨rfl, rfl, rfl, by decide +kernel, rfl, by decide +kernel, by decide +kernel⟩
abbrev s_law_fits : Stmt := topS 23
abbrev N_law_fits : List Str := ["choices", "pays", "outcomes", "many", "row", "n"]
theorem sc_law_fits : FnScope ["choices", "pays", "outcomes", "many", "row", "n"] ["choices", "pays"] (defScope s_law_fits) := ⟨rfl, rfl, rfl, by decide +kernel, rfl, by decide +kernel, by decide +kernel⟩
abbrev s_law_made : Stmt := topS 24
abbrev N_law_made : List Str := ["choices", "pays", "kept", "row", "answer", "e", "others"]
theorem sc_law_made : FnScope ["choices", "pays", "kept", "row", "answer", "e", "others"] ["choices", "pays"] (defScope s_law_made) := ⟨rfl, rfl, rfl, by decide +kernel, rfl, by decide +kernel, by decide +kernel⟩
abbrev s_law_rows : Stmt := topS 25
abbrev N_law_rows : List Str := ["choices", "rows", "many", "longer", "row", "choice"]
theorem sc_law_rows : FnScope ["choices", "rows", "many", "longer", "row", "choice"] ["choices"] (defScope s_law_rows) := ⟨rfl, rfl, rfl, by decide +kernel, rfl, by decide +kernel, by decide +kernel⟩
abbrev s_law_door : Stmt := topS 26
abbrev N_law_door : List Str := ["game", "door", "person", "outcome", "choice", "e", "kinds"]
theorem sc_law_door : FnScope ["game", "door", "person", "outcome", "choice", "e", "kinds"] ["game", "door", "person", "outcome", "choice"] (defScope s_law_door) := ⟨rfl, rfl, rfl, by decide +kernel, rfl, by decide +kernel, by decide +kernel⟩
abbrev s_law_due : Stmt := topS 27
abbrev N_law_due : List Str := ["tables", "rows", "door", "person", "outcome", "choice", "row"]
theorem sc_law_due : FnScope ["tables", "rows", "door", "person", "outcome", "choice", "row"] ["tables", "rows", "door", "person", "outcome", "choice"] (defScope s_law_due) := ⟨rfl, rfl, rfl, by decide +kernel, rfl, by decide +kernel, by decide +kernel⟩
abbrev s_law_equal : Stmt := topS 28
abbrev N_law_equal : List Str := ["answer", "due", "k"]
theorem sc_law_equal : FnScope ["answer", "due", "k"] ["answer", "due"] (defScope s_law_equal) := ⟨rfl, rfl, rfl, by decide +kernel, rfl, by decide +kernel, by decide +kernel⟩
abbrev s_law_agrees : Stmt := topS 29
abbrev N_law_agrees : List Str := ["game", "tables", "rows", "door", "person", "outcome", "choice", "due"]
theorem sc_law_agrees : FnScope ["game", "tables", "rows", "door", "person", "outcome", "choice", "due"] ["game", "tables", "rows", "door", "person", "outcome", "choice"] (defScope s_law_agrees) := ⟨rfl, rfl, rfl, by decide +kernel, rfl, by decide +kernel, by decide +kernel⟩
abbrev s_law_asked : Stmt := topS 30
abbrev N_law_asked : List Str := ["game", "tables", "rows", "people", "person", "row", "outcome", "door", "choice"]
theorem sc_law_asked : FnScope ["game", "tables", "rows", "people", "person", "row", "outcome", "door", "choice"] ["game", "tables", "rows"] (defScope s_law_asked) := ⟨rfl, rfl, rfl, by decide +kernel, rfl, by decide +kernel, by decide +kernel⟩
abbrev s_law_refused : Stmt := topS 31
abbrev N_law_refused : List Str := ["game", "tables", "rows", "drawn", "person", "outcome", "many", "good", "bad", "k", "edge", "mask", "asked", "door"]
theorem sc_law_refused : FnScope ["game", "tables", "rows", "drawn", "person", "outcome", "many", "good", "bad", "k", "edge", "mask", "asked", "door"] ["game", "tables", "rows", "drawn"] (defScope s_law_refused) := ⟨rfl, rfl, rfl, by decide +kernel, rfl, by decide +kernel, by decide +kernel⟩
abbrev s_law : Stmt := topS 32
abbrev N_law : List Str := ["script", "built", "drawn", "tables", "handed", "row", "answer", "game", "second", "other", "rows", "seen"]
theorem sc_law : FnScope ["script", "built", "drawn", "tables", "handed", "row", "answer", "game", "second", "other", "rows", "seen"] ["script"] (defScope s_law) := ⟨rfl, rfl, rfl, by decide +kernel, rfl, by decide +kernel, by decide +kernel⟩
structure Gm (K : PySem.W.Frag) (mg : Str → Option Value) (C_Game C_Fault C_BadGame C_NoPerson C_NoWorld C_NoChoice : Addr) : Prop where
  BadGame_e : ExcC K C_BadGame
  BadGame_m : PySem.W.exmOne K (.ref C_BadGame) (.ref C_Fault) = some true
  BadGame_p : Ep K mg "BadGame" C_BadGame
  BadGame_v : mg "BadGame" = some (.ref C_BadGame)
  Fault_u : UpC K mg "Fault" C_Fault
  Fault_v : mg "Fault" = some (.ref C_Fault)
  Game__choices : NoAttr K C_Game "_choices"
  Game__pays : NoAttr K C_Game "_pays"
  Game__steps : NoAttr K C_Game "_steps"
  Game_c : Cls K C_Game
  Game_outcomes : NoAttr K C_Game "outcomes"
  Game_people : NoAttr K C_Game "people"
  MOST_CHOICES : ∃ t, mg "MOST_CHOICES" = some (.int 4 t)
  MOST_OUTCOMES : ∃ t, mg "MOST_OUTCOMES" = some (.int 12 t)
  MOST_PAY : ∃ t, mg "MOST_PAY" = some (.int 99 t)
  MOST_PLAYERS : ∃ t, mg "MOST_PLAYERS" = some (.int 3 t)
  NoChoice_choice : PySem.W.findIn K (.ref C_NoChoice) "choice" = some none
  NoChoice_e : ExcC K C_NoChoice
  NoChoice_m : PySem.W.exmOne K (.ref C_NoChoice) (.ref C_Fault) = some true
  NoChoice_v : mg "NoChoice" = some (.ref C_NoChoice)
  NoPerson_e : ExcC K C_NoPerson
  NoPerson_m : PySem.W.exmOne K (.ref C_NoPerson) (.ref C_Fault) = some true
  NoPerson_person : PySem.W.findIn K (.ref C_NoPerson) "person" = some none
  NoPerson_v : mg "NoPerson" = some (.ref C_NoPerson)
  NoWorld_e : ExcC K C_NoWorld
  NoWorld_m : PySem.W.exmOne K (.ref C_NoWorld) (.ref C_Fault) = some true
  NoWorld_v : mg "NoWorld" = some (.ref C_NoWorld)
  NoWorld_world : PySem.W.findIn K (.ref C_NoWorld) "world" = some none
  ValueError : mg "ValueError" = none
  bool : mg "bool" = none
  int : mg "int" = none
  isinstance : mg "isinstance" = none
  kit_BadGame_BadGame : PySem.W.kitOne K (.ref C_BadGame) (.ref C_BadGame) = some true
  kit_BadGame_NoChoice : PySem.W.kitOne K (.ref C_BadGame) (.ref C_NoChoice) = some false
  kit_BadGame_NoPerson : PySem.W.kitOne K (.ref C_BadGame) (.ref C_NoPerson) = some false
  kit_BadGame_NoWorld : PySem.W.kitOne K (.ref C_BadGame) (.ref C_NoWorld) = some false
  kit_BadGame_VE : PySem.W.kitOne K (.ref C_BadGame) (.type "ValueError") = some true
  kit_NoChoice_BadGame : PySem.W.kitOne K (.ref C_NoChoice) (.ref C_BadGame) = some false
  kit_NoChoice_NoChoice : PySem.W.kitOne K (.ref C_NoChoice) (.ref C_NoChoice) = some true
  kit_NoChoice_NoPerson : PySem.W.kitOne K (.ref C_NoChoice) (.ref C_NoPerson) = some false
  kit_NoChoice_NoWorld : PySem.W.kitOne K (.ref C_NoChoice) (.ref C_NoWorld) = some false
  kit_NoPerson_BadGame : PySem.W.kitOne K (.ref C_NoPerson) (.ref C_BadGame) = some false
  kit_NoPerson_NoChoice : PySem.W.kitOne K (.ref C_NoPerson) (.ref C_NoChoice) = some false
  kit_NoPerson_NoPerson : PySem.W.kitOne K (.ref C_NoPerson) (.ref C_NoPerson) = some true
  kit_NoPerson_NoWorld : PySem.W.kitOne K (.ref C_NoPerson) (.ref C_NoWorld) = some false
  kit_NoWorld_BadGame : PySem.W.kitOne K (.ref C_NoWorld) (.ref C_BadGame) = some false
  kit_NoWorld_NoChoice : PySem.W.kitOne K (.ref C_NoWorld) (.ref C_NoChoice) = some false
  kit_NoWorld_NoPerson : PySem.W.kitOne K (.ref C_NoWorld) (.ref C_NoPerson) = some false
  kit_NoWorld_NoWorld : PySem.W.kitOne K (.ref C_NoWorld) (.ref C_NoWorld) = some true
  len : mg "len" = none
  list : mg "list" = none
  min : mg "min" = none
  range : mg "range" = none
  tuple : mg "tuple" = none
end FS
set_option Elab.async false
set_option linter.all false
set_option maxRecDepth 100000
set_option maxHeartbeats 4000000
set_option exponentiation.threshold 20000
namespace FS
open PySem PySem.Spec PyProof.Rows L2

local macro_rules | `(tactic| walk_at "side") => `(tactic| first | assumption | omega | decide)
local macro_rules | `(tactic| walk_at "hv") => `(tactic| (intro i hi; simp at hi; first | (subst hi; rfl) | (rcases hi with rfl | rfl <;> rfl) | (rcases hi with rfl | rfl | rfl <;> rfl)))
local macro_rules | `(tactic| walk_at "pr") => `(tactic| fail "no promise")
local macro_rules | `(tactic| walk_at "rv") => `(tactic| first
  | (with_reducible exact rv_add) | (with_reducible exact rv_sub) | (with_reducible exact rv_lt) | (with_reducible exact rv_le) | (with_reducible exact rv_gt) | (with_reducible exact rv_ge) | (with_reducible exact rv_eq) | (with_reducible exact rv_ne)
  | (with_reducible exact rv_is) | (with_reducible exact rv_isnot)
  | ((with_reducible apply rv_div); first | assumption | exact cdiv_small (by omega) (by omega))
  | ((with_reducible apply rv_mod); first | assumption | omega)
  | ((with_reducible apply rv_mul); first | assumption | exact cmul_left (by omega) | exact cmul_right (by omega))
  | ((with_reducible apply rv_mulW); assumption)
  | (with_reducible exact rv_p8) | (with_reducible exact rv_p18) | (with_reducible exact rv_p40) | (with_reducible exact rv_p20) | (with_reducible exact rv_p6) | (with_reducible exact rv_p7) | (with_reducible exact rv_p12) | (with_reducible exact rv_p25) | (with_reducible exact rv_p30) | (with_reducible exact rv_p39) | (with_reducible exact rv_p60)
  | ((with_reducible apply rv_ixxL); first | assumption | exact at_getD (by omega) (by omega) | exact at_nat rfl)
  | ((with_reducible apply rv_ixxT); first | assumption | exact at_getD (by omega) (by omega) | exact at_nat rfl)
  | ((with_reducible apply rv_ixxC); first | assumption)
  | (with_reducible exact ru_neg))
local macro_rules | `(tactic| walk_at "isi") => `(tactic| first | (with_reducible exact isi_non_int) | (with_reducible exact isi_non_bool) | (with_reducible exact isi_non_str) | (with_reducible exact isi_non_tuple) | (with_reducible exact isi_non_list) | (with_reducible exact isi_bl_int) | (with_reducible exact isi_bl_bool) | (with_reducible exact isi_bl_str) | (with_reducible exact isi_bl_tuple) | (with_reducible exact isi_bl_list) | (with_reducible exact isi_int_int) | (with_reducible exact isi_int_bool) | (with_reducible exact isi_int_str) | (with_reducible exact isi_int_tuple) | (with_reducible exact isi_int_list) | (with_reducible exact isi_str_int) | (with_reducible exact isi_str_bool) | (with_reducible exact isi_str_str) | (with_reducible exact isi_str_tuple) | (with_reducible exact isi_str_list) | (with_reducible exact isi_tup_int) | (with_reducible exact isi_tup_bool) | (with_reducible exact isi_tup_str) | (with_reducible exact isi_tup_tuple) | (with_reducible exact isi_tup_list) | (with_reducible exact isi_lst_int) | (with_reducible exact isi_lst_bool) | (with_reducible exact isi_lst_str) | (with_reducible exact isi_lst_tuple) | (with_reducible exact isi_lst_list))
local macro_rules | `(tactic| walk_at "rc") => `(tactic| first
  | walk_at "isi"
  | (with_reducible exact rc_len) | (with_reducible exact rc_lent) | (with_reducible exact rc_lenc) | (with_reducible exact rc_toint) | (with_reducible exact rc_absv) | (with_reducible exact rc_gcd)
  | ((with_reducible apply rc_lcm); assumption)
  | ((with_reducible apply rc_isi); (focus rfl); assumption)
  | (with_reducible exact rco_list) | (with_reducible exact rco_listT))
local macro_rules | `(tactic| walk_at "ev") => `(tactic| first
  | (with_reducible exact ev_int) | (with_reducible exact ev_bl) | (with_reducible exact ev_non) | (with_reducible exact ev_str) | (with_reducible exact ev_ty)
  | ((with_reducible apply ev_var); rfl)
  | ((with_reducible apply ev_lenOw); rfl)
  | ((with_reducible apply ev_op) <;> first | walk_at "ev" | walk_at "rv")
  | ((with_reducible apply ev_un) <;> first | walk_at "ev" | walk_at "rv")
  | ((with_reducible apply ev_cb) <;> first | walk_at "ev" | walk_at "rc")
  | ((with_reducible apply ev_call) <;> first | walk_at "ev" | walk_at "pr")
  | ((with_reducible apply ev_tup) <;> first | walk_at "ev" | (simp; done))
  | (with_reducible exact ea_nil)
  | ((with_reducible apply ea_cons) <;> walk_at "ev")
  | ((with_reducible apply et_test); walk_at "ev")
  | ((with_reducible apply et_B); walk_at "ev")
  | ((with_reducible apply et_not); walk_at "ev")
  | ((with_reducible apply et_or); (walk_at "ev"); intro _; walk_at "ev")
  | ((with_reducible apply et_and); (walk_at "ev"); intro _; walk_at "ev")
  | ((with_reducible apply ev_orV); (walk_at "ev"); intro _; walk_at "ev")
  | ((with_reducible apply ev_andV); (walk_at "ev"); intro _; walk_at "ev")
  | ((with_reducible apply ev_notV); walk_at "ev")
  | (with_reducible exact et_yes)
  | ((with_reducible apply evo_lst) <;> first | walk_at "ev" | (simp; done))
  | ((with_reducible apply ev_opO) <;> first | walk_at "ev" | ((with_reducible apply rvo_add); simp; omega))
  | ((with_reducible apply ev_cbO) <;> first | walk_at "ev" | walk_at "rc")
  | ((with_reducible apply ev_callO) <;> first | walk_at "ev" | walk_at "pr")
  | ((with_reducible apply ec_call) <;> first | walk_at "ev" | walk_at "pr")
  | ((with_reducible apply ec_tup) <;> first | walk_at "ev" | (simp; done))
  | ((with_reducible apply ec_lst) <;> first | walk_at "ev" | (simp; done))
  | (with_reducible exact eca_nil)
  | ((with_reducible apply eca_cons) <;> walk_at "ev")
  | ((with_reducible apply ec_sc); (walk_at "ev"); rfl)
  | ((with_reducible apply ec_ow); (walk_at "ev"); first | assumption | (intro d hd; simp at hd; done))
  | ((with_reducible apply ec_fz); walk_at "ev")
  | ((with_reducible apply ev_fz); walk_at "ev"))

local macro_rules | `(tactic| walk_at "im") => `(tactic| ((with_reducible apply wq_asg); walk_at "ev"; (try dsimp only [List.set, Int.reduceToNat])))
local macro_rules | `(tactic| walk_at "ow") => `(tactic| ((with_reducible apply wq_asgO); walk_at "ev"; (focus (first | decide | (simp; done))); (try dsimp only [List.set, Int.reduceToNat])))
local macro_rules | `(tactic| walk_at "cl") => `(tactic| ((with_reducible apply wq_asgC); walk_at "ev"; (focus (first | decide | (simp; done))); (try dsimp only [List.set, Int.reduceToNat])))
local macro_rules | `(tactic| walk_at "if") => `(tactic| ((first | (with_reducible apply wq_when) | (with_reducible apply wq_if) | (with_reducible apply ws_if)); walk_at "ev"; (try dsimp only [Int.reduceToNat])))
local macro_rules | `(tactic| walk_at "ret") => `(tactic| ((with_reducible apply ws_ret); walk_at "ev"))
local macro_rules | `(tactic| walk_at "go") => `(tactic| (try dsimp only [cxOf, L2.Cx.nox, L2.Cx.wish, L2.Cx.blk]))
local macro_rules | `(tactic| walk_at "ints") => `(tactic| (refine ev_fz (evo_lst ?_ (by decide)); repeat (first | exact ea_nil | refine ea_cons ev_int ?_)))

section
variable {P : Program} {w : World} {K : PySem.W.Frag} {mg : Str → Option Value} {base : Heap} {C_Game C_Fault C_BadGame C_NoPerson C_NoWorld C_NoChoice : Addr}
theorem ok_NoPerson (F : Dx K mg "NoPerson" C_NoPerson "NoPerson.__init__" s_NoPerson_init ["self", "person"]) (gm : Gm K mg C_Game C_Fault C_BadGame C_NoPerson C_NoWorld C_NoChoice) : FnX P w K mg base 1 "NoPerson" C_NoPerson ["person"] :=
  F.ok1 sc_NoPerson_init gm.NoPerson_person fun f' cdv A outer s H E hr => (pss_cons (ps_expr (pe_up gm.Fault_u rfl (pa_cons (pv 0) (pa_cons pe_str pa_nil)))) (pss_one (ps_ost (pv 0) (pv 1))))
theorem ok_NoWorld (F : Dx K mg "NoWorld" C_NoWorld "NoWorld.__init__" s_NoWorld_init ["self", "world"]) (gm : Gm K mg C_Game C_Fault C_BadGame C_NoPerson C_NoWorld C_NoChoice) : FnX P w K mg base 1 "NoWorld" C_NoWorld ["world"] :=
  F.ok1 sc_NoWorld_init gm.NoWorld_world fun f' cdv A outer s H E hr => (pss_cons (ps_expr (pe_up gm.Fault_u rfl (pa_cons (pv 0) (pa_cons pe_str pa_nil)))) (pss_one (ps_ost (pv 0) (pv 1))))
theorem ok_NoChoice (F : Dx K mg "NoChoice" C_NoChoice "NoChoice.__init__" s_NoChoice_init ["self", "choice"]) (gm : Gm K mg C_Game C_Fault C_BadGame C_NoPerson C_NoWorld C_NoChoice) : FnX P w K mg base 1 "NoChoice" C_NoChoice ["choice"] :=
  F.ok1 sc_NoChoice_init gm.NoChoice_choice fun f' cdv A outer s H E hr => (pss_cons (ps_expr (pe_up gm.Fault_u rfl (pa_cons (pv 0) (pa_cons pe_str pa_nil)))) (pss_one (ps_ost (pv 0) (pv 1))))
end
end FS
set_option Elab.async false
set_option linter.all false
set_option maxRecDepth 100000
set_option maxHeartbeats 4000000
set_option exponentiation.threshold 20000
namespace FS
open PySem PySem.Spec PyProof.Rows L2

local macro_rules | `(tactic| walk_at "side") => `(tactic| first | assumption | omega | decide)
local macro_rules | `(tactic| walk_at "hv") => `(tactic| (intro i hi; simp at hi; first | (subst hi; rfl) | (rcases hi with rfl | rfl <;> rfl) | (rcases hi with rfl | rfl | rfl <;> rfl)))
local macro_rules | `(tactic| walk_at "pr") => `(tactic| fail "no promise")
local macro_rules | `(tactic| walk_at "rv") => `(tactic| first
  | (with_reducible exact rv_add) | (with_reducible exact rv_sub) | (with_reducible exact rv_lt) | (with_reducible exact rv_le) | (with_reducible exact rv_gt) | (with_reducible exact rv_ge) | (with_reducible exact rv_eq) | (with_reducible exact rv_ne)
  | (with_reducible exact rv_is) | (with_reducible exact rv_isnot)
  | ((with_reducible apply rv_div); first | assumption | exact cdiv_small (by omega) (by omega))
  | ((with_reducible apply rv_mod); first | assumption | omega)
  | ((with_reducible apply rv_mul); first | assumption | exact cmul_left (by omega) | exact cmul_right (by omega))
  | ((with_reducible apply rv_mulW); assumption)
  | (with_reducible exact rv_p8) | (with_reducible exact rv_p18) | (with_reducible exact rv_p40) | (with_reducible exact rv_p20) | (with_reducible exact rv_p6) | (with_reducible exact rv_p7) | (with_reducible exact rv_p12) | (with_reducible exact rv_p25) | (with_reducible exact rv_p30) | (with_reducible exact rv_p39) | (with_reducible exact rv_p60)
  | ((with_reducible apply rv_ixxL); first | assumption | exact at_getD (by omega) (by omega) | exact at_nat rfl)
  | ((with_reducible apply rv_ixxT); first | assumption | exact at_getD (by omega) (by omega) | exact at_nat rfl)
  | ((with_reducible apply rv_ixxC); first | assumption)
  | (with_reducible exact ru_neg))
local macro_rules | `(tactic| walk_at "isi") => `(tactic| first | (with_reducible exact isi_non_int) | (with_reducible exact isi_non_bool) | (with_reducible exact isi_non_str) | (with_reducible exact isi_non_tuple) | (with_reducible exact isi_non_list) | (with_reducible exact isi_bl_int) | (with_reducible exact isi_bl_bool) | (with_reducible exact isi_bl_str) | (with_reducible exact isi_bl_tuple) | (with_reducible exact isi_bl_list) | (with_reducible exact isi_int_int) | (with_reducible exact isi_int_bool) | (with_reducible exact isi_int_str) | (with_reducible exact isi_int_tuple) | (with_reducible exact isi_int_list) | (with_reducible exact isi_str_int) | (with_reducible exact isi_str_bool) | (with_reducible exact isi_str_str) | (with_reducible exact isi_str_tuple) | (with_reducible exact isi_str_list) | (with_reducible exact isi_tup_int) | (with_reducible exact isi_tup_bool) | (with_reducible exact isi_tup_str) | (with_reducible exact isi_tup_tuple) | (with_reducible exact isi_tup_list) | (with_reducible exact isi_lst_int) | (with_reducible exact isi_lst_bool) | (with_reducible exact isi_lst_str) | (with_reducible exact isi_lst_tuple) | (with_reducible exact isi_lst_list))
local macro_rules | `(tactic| walk_at "rc") => `(tactic| first
  | walk_at "isi"
  | (with_reducible exact rc_len) | (with_reducible exact rc_lent) | (with_reducible exact rc_lenc) | (with_reducible exact rc_toint) | (with_reducible exact rc_absv) | (with_reducible exact rc_gcd)
  | ((with_reducible apply rc_lcm); assumption)
  | ((with_reducible apply rc_isi); (focus rfl); assumption)
  | (with_reducible exact rco_list) | (with_reducible exact rco_listT))
local macro_rules | `(tactic| walk_at "ev") => `(tactic| first
  | (with_reducible exact ev_int) | (with_reducible exact ev_bl) | (with_reducible exact ev_non) | (with_reducible exact ev_str) | (with_reducible exact ev_ty)
  | ((with_reducible apply ev_var); rfl)
  | ((with_reducible apply ev_lenOw); rfl)
  | ((with_reducible apply ev_op) <;> first | walk_at "ev" | walk_at "rv")
  | ((with_reducible apply ev_un) <;> first | walk_at "ev" | walk_at "rv")
  | ((with_reducible apply ev_cb) <;> first | walk_at "ev" | walk_at "rc")
  | ((with_reducible apply ev_call) <;> first | walk_at "ev" | walk_at "pr")
  | ((with_reducible apply ev_tup) <;> first | walk_at "ev" | (simp; done))
  | (with_reducible exact ea_nil)
  | ((with_reducible apply ea_cons) <;> walk_at "ev")
  | ((with_reducible apply et_test); walk_at "ev")
  | ((with_reducible apply et_B); walk_at "ev")
  | ((with_reducible apply et_not); walk_at "ev")
  | ((with_reducible apply et_or); (walk_at "ev"); intro _; walk_at "ev")
  | ((with_reducible apply et_and); (walk_at "ev"); intro _; walk_at "ev")
  | ((with_reducible apply ev_orV); (walk_at "ev"); intro _; walk_at "ev")
  | ((with_reducible apply ev_andV); (walk_at "ev"); intro _; walk_at "ev")
  | ((with_reducible apply ev_notV); walk_at "ev")
  | (with_reducible exact et_yes)
  | ((with_reducible apply evo_lst) <;> first | walk_at "ev" | (simp; done))
  | ((with_reducible apply ev_opO) <;> first | walk_at "ev" | ((with_reducible apply rvo_add); simp; omega))
  | ((with_reducible apply ev_cbO) <;> first | walk_at "ev" | walk_at "rc")
  | ((with_reducible apply ev_callO) <;> first | walk_at "ev" | walk_at "pr")
  | ((with_reducible apply ec_call) <;> first | walk_at "ev" | walk_at "pr")
  | ((with_reducible apply ec_tup) <;> first | walk_at "ev" | (simp; done))
  | ((with_reducible apply ec_lst) <;> first | walk_at "ev" | (simp; done))
  | (with_reducible exact eca_nil)
  | ((with_reducible apply eca_cons) <;> walk_at "ev")
  | ((with_reducible apply ec_sc); (walk_at "ev"); rfl)
  | ((with_reducible apply ec_ow); (walk_at "ev"); first | assumption | (intro d hd; simp at hd; done))
  | ((with_reducible apply ec_fz); walk_at "ev")
  | ((with_reducible apply ev_fz); walk_at "ev"))

local macro_rules | `(tactic| walk_at "im") => `(tactic| ((with_reducible apply wq_asg); walk_at "ev"; (try dsimp only [List.set, Int.reduceToNat])))
local macro_rules | `(tactic| walk_at "ow") => `(tactic| ((with_reducible apply wq_asgO); walk_at "ev"; (focus (first | decide | (simp; done))); (try dsimp only [List.set, Int.reduceToNat])))
local macro_rules | `(tactic| walk_at "cl") => `(tactic| ((with_reducible apply wq_asgC); walk_at "ev"; (focus (first | decide | (simp; done))); (try dsimp only [List.set, Int.reduceToNat])))
local macro_rules | `(tactic| walk_at "if") => `(tactic| ((first | (with_reducible apply wq_when) | (with_reducible apply wq_if) | (with_reducible apply ws_if)); walk_at "ev"; (try dsimp only [Int.reduceToNat])))
local macro_rules | `(tactic| walk_at "ret") => `(tactic| ((with_reducible apply ws_ret); walk_at "ev"))
local macro_rules | `(tactic| walk_at "go") => `(tactic| (try dsimp only [cxOf, L2.Cx.nox, L2.Cx.wish, L2.Cx.blk]))
local macro_rules | `(tactic| walk_at "ints") => `(tactic| (refine ev_fz (evo_lst ?_ (by decide)); repeat (first | exact ea_nil | refine ea_cons ev_int ?_)))

/-! ### games -/
def prodI (cs : List Int) : Int := cs.foldl (fun p m => p * m) 1
def stepsF : Int → List Int → List Int
  | _, [] => []
  | s, c :: cs => s / c :: stepsF (s / c) cs
structure GameM where
  choices : List Int
  pays : List (List Int)
def rowsD (l : List (List Int)) : D := .lst (l.map intsD)
def gameNs : List Str := ["outcomes", "people", "_choices", "_pays", "_steps"]
def gameL (g : GameM) : List D := [.int (prodI g.choices), .int (g.choices.length : Int), intsD g.choices, rowsD g.pays, intsD (stepsF (prodI g.choices) g.choices)]
def gameD (C : Addr) (g : GameM) : D := .ins C gameNs (gameL g)
section
variable {P : Program} {w : World} {K : PySem.W.Frag} {mg : Str → Option Value} {base : Heap} {C_Game C_Fault C_BadGame C_NoPerson C_NoWorld C_NoChoice : Addr}
def xNoPerson (C : Addr) (q : Int) : Exn := (.ref C, ["person"], [.int q])
def xNoWorld (C : Addr) (q : Int) : Exn := (.ref C, ["world"], [.int q])
def xNoChoice (C : Addr) (q : Int) : Exn := (.ref C, ["choice"], [.int q])
def P_check_player (C CP : Addr) : PrD := fun ds R Z => ∃ (g : GameM) (q : Int), ds = [gameD C g, .int q] ∧ (0 ≤ q ∧ q < g.choices.length → R (.im .non)) ∧ (¬ (0 ≤ q ∧ q < g.choices.length) → Z (xNoPerson CP q))
theorem ok_check_player (F : Df K mg "check_player" s_check_player ["game", "person"]) (gm : Gm K mg C_Game C_Fault C_BadGame C_NoPerson C_NoWorld C_NoChoice) (G_NoPerson : FnX P w K mg base 1 "NoPerson" C_NoPerson ["person"]) : FnG P w K mg base (L2N.CX P w) 3 "check_player" ["game", "person"] (spD K (P_check_player C_Game C_NoPerson)) := by
  refine F.okN (k := 2) sc_check_player (fun ds R Z ⟨a, b, e, _⟩ => by rw [e] <;> rfl) (fun f cdv A outer s H E hr => ?_)
  refine ⟨_,
    (pss_one (ps_if (PW.pt (pw_or (pt_cmpR opLt (pv 1) pe_int (nomark _)) (pw_or1 (pt_cmpR opGe (pv 1) (fl K (pv 0)) (nomark _))))) (pss_one (ps_rx G_NoPerson rfl hr.le (L2N.takes_of rfl rfl rfl rfl) pass0 (pa_cons (pv 1) pa_nil))) pss_nil)), fun ds R Z p => ?_⟩
  obtain ⟨g, q, rfl, p1, p2⟩ := p
  refine ws_to (ρ' := [.im (gameD C_Game g), .im (.int q)]) rfl ?_
  walk_at "go"
  refine ws_if (et_or (et_test (ev_op (ev_var rfl) ev_int rv_lt)) fun _ => et_test (ev_op (ev_var rfl) (ev_fld (l := gameL g) (ns := gameNs) (j := 1) (ev_var rfl) (by decide) rfl gm.Game_c gm.Game_people) rv_ge)) (fun hb => ?_) (fun hb => ?_)
  · refine ws_rx (ds := [.int q]) (by walk_at "ev") rfl (by simp) (p2 fun h => ?_)
    have hb : q < 0 ∨ (g.choices.length : Int) ≤ q := by simpa using hb
    omega
  · have hb : 0 ≤ q ∧ q < g.choices.length := by simpa using hb
    exact ws_next (p1 hb)
theorem pr_check_player {C CP : Addr} {g : GameM} {q : Int} {R : Sl → Prop} {Z : Exn → Prop} (h1 : 0 ≤ q ∧ q < g.choices.length → R (.im .non)) (h2 : ¬ (0 ≤ q ∧ q < g.choices.length) → Z (xNoPerson CP q)) : P_check_player C CP [gameD C g, .int q] R Z := ⟨g, q, rfl, h1, h2⟩
def P_check_outcome (C CP : Addr) : PrD := fun ds R Z => ∃ (g : GameM) (q : Int), ds = [gameD C g, .int q] ∧ (0 ≤ q ∧ q < prodI g.choices → R (.im .non)) ∧ (¬ (0 ≤ q ∧ q < prodI g.choices) → Z (xNoWorld CP q))
theorem ok_check_outcome (F : Df K mg "check_outcome" s_check_outcome ["game", "outcome"]) (gm : Gm K mg C_Game C_Fault C_BadGame C_NoPerson C_NoWorld C_NoChoice) (G_NoWorld : FnX P w K mg base 1 "NoWorld" C_NoWorld ["world"]) : FnG P w K mg base (L2N.CX P w) 3 "check_outcome" ["game", "outcome"] (spD K (P_check_outcome C_Game C_NoWorld)) := by
  refine F.okN (k := 2) sc_check_outcome (fun ds R Z ⟨a, b, e, _⟩ => by rw [e] <;> rfl) (fun f cdv A outer s H E hr => ?_)
  refine ⟨_,
    (pss_one (ps_if (PW.pt (pw_or (pt_cmpR opLt (pv 1) pe_int (nomark _)) (pw_or1 (pt_cmpR opGe (pv 1) (fl K (pv 0)) (nomark _))))) (pss_one (ps_rx G_NoWorld rfl hr.le (L2N.takes_of rfl rfl rfl rfl) pass0 (pa_cons (pv 1) pa_nil))) pss_nil)), fun ds R Z p => ?_⟩
  obtain ⟨g, q, rfl, p1, p2⟩ := p
  refine ws_to (ρ' := [.im (gameD C_Game g), .im (.int q)]) rfl ?_
  walk_at "go"
  refine ws_if (et_or (et_test (ev_op (ev_var rfl) ev_int rv_lt)) fun _ => et_test (ev_op (ev_var rfl) (ev_fld (l := gameL g) (ns := gameNs) (j := 0) (ev_var rfl) (by decide) rfl gm.Game_c gm.Game_outcomes) rv_ge)) (fun hb => ?_) (fun hb => ?_)
  · refine ws_rx (ds := [.int q]) (by walk_at "ev") rfl (by simp) (p2 fun h => ?_)
    have hb : q < 0 ∨ prodI g.choices ≤ q := by simpa using hb
    omega
  · have hb : 0 ≤ q ∧ q < prodI g.choices := by simpa using hb
    exact ws_next (p1 hb)
theorem pr_check_outcome {C CP : Addr} {g : GameM} {q : Int} {R : Sl → Prop} {Z : Exn → Prop} (h1 : 0 ≤ q ∧ q < prodI g.choices → R (.im .non)) (h2 : ¬ (0 ≤ q ∧ q < prodI g.choices) → Z (xNoWorld CP q)) : P_check_outcome C CP [gameD C g, .int q] R Z := ⟨g, q, rfl, h1, h2⟩
end
end FS
set_option Elab.async false
set_option linter.all false
set_option maxRecDepth 100000
set_option maxHeartbeats 4000000
set_option exponentiation.threshold 20000
namespace FS
open PySem PySem.Spec PyProof.Rows L2

local macro_rules | `(tactic| walk_at "side") => `(tactic| first | assumption | omega | decide)
local macro_rules | `(tactic| walk_at "hv") => `(tactic| (intro i hi; simp at hi; first | (subst hi; rfl) | (rcases hi with rfl | rfl <;> rfl) | (rcases hi with rfl | rfl | rfl <;> rfl)))
local macro_rules | `(tactic| walk_at "pr") => `(tactic| fail "no promise")
local macro_rules | `(tactic| walk_at "rv") => `(tactic| first
  | (with_reducible exact rv_add) | (with_reducible exact rv_sub) | (with_reducible exact rv_lt) | (with_reducible exact rv_le) | (with_reducible exact rv_gt) | (with_reducible exact rv_ge) | (with_reducible exact rv_eq) | (with_reducible exact rv_ne)
  | (with_reducible exact rv_is) | (with_reducible exact rv_isnot)
  | ((with_reducible apply rv_div); first | assumption | exact cdiv_small (by omega) (by omega))
  | ((with_reducible apply rv_mod); first | assumption | omega)
  | ((with_reducible apply rv_mul); first | assumption | exact cmul_left (by omega) | exact cmul_right (by omega))
  | ((with_reducible apply rv_mulW); assumption)
  | (with_reducible exact rv_p8) | (with_reducible exact rv_p18) | (with_reducible exact rv_p40) | (with_reducible exact rv_p20) | (with_reducible exact rv_p6) | (with_reducible exact rv_p7) | (with_reducible exact rv_p12) | (with_reducible exact rv_p25) | (with_reducible exact rv_p30) | (with_reducible exact rv_p39) | (with_reducible exact rv_p60)
  | ((with_reducible apply rv_ixxL); first | assumption | exact at_getD (by omega) (by omega) | exact at_nat rfl)
  | ((with_reducible apply rv_ixxT); first | assumption | exact at_getD (by omega) (by omega) | exact at_nat rfl)
  | ((with_reducible apply rv_ixxC); first | assumption)
  | (with_reducible exact ru_neg))
local macro_rules | `(tactic| walk_at "isi") => `(tactic| first | (with_reducible exact isi_non_int) | (with_reducible exact isi_non_bool) | (with_reducible exact isi_non_str) | (with_reducible exact isi_non_tuple) | (with_reducible exact isi_non_list) | (with_reducible exact isi_bl_int) | (with_reducible exact isi_bl_bool) | (with_reducible exact isi_bl_str) | (with_reducible exact isi_bl_tuple) | (with_reducible exact isi_bl_list) | (with_reducible exact isi_int_int) | (with_reducible exact isi_int_bool) | (with_reducible exact isi_int_str) | (with_reducible exact isi_int_tuple) | (with_reducible exact isi_int_list) | (with_reducible exact isi_str_int) | (with_reducible exact isi_str_bool) | (with_reducible exact isi_str_str) | (with_reducible exact isi_str_tuple) | (with_reducible exact isi_str_list) | (with_reducible exact isi_tup_int) | (with_reducible exact isi_tup_bool) | (with_reducible exact isi_tup_str) | (with_reducible exact isi_tup_tuple) | (with_reducible exact isi_tup_list) | (with_reducible exact isi_lst_int) | (with_reducible exact isi_lst_bool) | (with_reducible exact isi_lst_str) | (with_reducible exact isi_lst_tuple) | (with_reducible exact isi_lst_list))
local macro_rules | `(tactic| walk_at "rc") => `(tactic| first
  | walk_at "isi"
  | (with_reducible exact rc_len) | (with_reducible exact rc_lent) | (with_reducible exact rc_lenc) | (with_reducible exact rc_toint) | (with_reducible exact rc_absv) | (with_reducible exact rc_gcd)
  | ((with_reducible apply rc_lcm); assumption)
  | ((with_reducible apply rc_isi); (focus rfl); assumption)
  | (with_reducible exact rco_list) | (with_reducible exact rco_listT))
local macro_rules | `(tactic| walk_at "ev") => `(tactic| first
  | (with_reducible exact ev_int) | (with_reducible exact ev_bl) | (with_reducible exact ev_non) | (with_reducible exact ev_str) | (with_reducible exact ev_ty)
  | ((with_reducible apply ev_var); rfl)
  | ((with_reducible apply ev_lenOw); rfl)
  | ((with_reducible apply ev_op) <;> first | walk_at "ev" | walk_at "rv")
  | ((with_reducible apply ev_un) <;> first | walk_at "ev" | walk_at "rv")
  | ((with_reducible apply ev_cb) <;> first | walk_at "ev" | walk_at "rc")
  | ((with_reducible apply ev_call) <;> first | walk_at "ev" | walk_at "pr")
  | ((with_reducible apply ev_tup) <;> first | walk_at "ev" | (simp; done))
  | (with_reducible exact ea_nil)
  | ((with_reducible apply ea_cons) <;> walk_at "ev")
  | ((with_reducible apply et_test); walk_at "ev")
  | ((with_reducible apply et_B); walk_at "ev")
  | ((with_reducible apply et_not); walk_at "ev")
  | ((with_reducible apply et_or); (walk_at "ev"); intro _; walk_at "ev")
  | ((with_reducible apply et_and); (walk_at "ev"); intro _; walk_at "ev")
  | ((with_reducible apply ev_orV); (walk_at "ev"); intro _; walk_at "ev")
  | ((with_reducible apply ev_andV); (walk_at "ev"); intro _; walk_at "ev")
  | ((with_reducible apply ev_notV); walk_at "ev")
  | (with_reducible exact et_yes)
  | ((with_reducible apply evo_lst) <;> first | walk_at "ev" | (simp; done))
  | ((with_reducible apply ev_opO) <;> first | walk_at "ev" | ((with_reducible apply rvo_add); simp; omega))
  | ((with_reducible apply ev_cbO) <;> first | walk_at "ev" | walk_at "rc")
  | ((with_reducible apply ev_callO) <;> first | walk_at "ev" | walk_at "pr")
  | ((with_reducible apply ec_call) <;> first | walk_at "ev" | walk_at "pr")
  | ((with_reducible apply ec_tup) <;> first | walk_at "ev" | (simp; done))
  | ((with_reducible apply ec_lst) <;> first | walk_at "ev" | (simp; done))
  | (with_reducible exact eca_nil)
  | ((with_reducible apply eca_cons) <;> walk_at "ev")
  | ((with_reducible apply ec_sc); (walk_at "ev"); rfl)
  | ((with_reducible apply ec_ow); (walk_at "ev"); first | assumption | (intro d hd; simp at hd; done))
  | ((with_reducible apply ec_fz); walk_at "ev")
  | ((with_reducible apply ev_fz); walk_at "ev"))

local macro_rules | `(tactic| walk_at "im") => `(tactic| ((with_reducible apply wq_asg); walk_at "ev"; (try dsimp only [List.set, Int.reduceToNat])))
local macro_rules | `(tactic| walk_at "ow") => `(tactic| ((with_reducible apply wq_asgO); walk_at "ev"; (focus (first | decide | (simp; done))); (try dsimp only [List.set, Int.reduceToNat])))
local macro_rules | `(tactic| walk_at "cl") => `(tactic| ((with_reducible apply wq_asgC); walk_at "ev"; (focus (first | decide | (simp; done))); (try dsimp only [List.set, Int.reduceToNat])))
local macro_rules | `(tactic| walk_at "if") => `(tactic| ((first | (with_reducible apply wq_when) | (with_reducible apply wq_if) | (with_reducible apply ws_if)); walk_at "ev"; (try dsimp only [Int.reduceToNat])))
local macro_rules | `(tactic| walk_at "ret") => `(tactic| ((with_reducible apply ws_ret); walk_at "ev"))
local macro_rules | `(tactic| walk_at "go") => `(tactic| (try dsimp only [cxOf, L2.Cx.nox, L2.Cx.wish, L2.Cx.blk]))
local macro_rules | `(tactic| walk_at "ints") => `(tactic| (refine ev_fz (evo_lst ?_ (by decide)); repeat (first | exact ea_nil | refine ea_cons ev_int ?_)))

/-! ### tables that fit -/
def FitC (cs : List Int) : Prop := (1 ≤ cs.length ∧ cs.length ≤ 3) ∧ (∀ m ∈ cs, 1 ≤ m ∧ m ≤ 4) ∧ prodI cs ≤ 12
def FitP (n : Nat) (o : Int) (pays : List (List Int)) : Prop := pays.length = n ∧ ∀ r ∈ pays, (r.length : Int) = o ∧ ∀ x ∈ r, -99 ≤ x ∧ x ≤ 99
def Fits (cs : List Int) (pays : List (List Int)) : Prop := FitC cs ∧ FitP cs.length (prodI cs) pays
theorem prodI_take {cs : List Int} {i : Nat} {m : Int} (h : cs[i]? = some m) : prodI (cs.take (i + 1)) = prodI (cs.take i) * m := by
  unfold prodI
  rw [List.take_add_one, h, List.foldl_append]
  rfl
section
variable {P : Program} {w : World} {K : PySem.W.Frag} {mg : Str → Option Value} {base : Heap} {C_Game C_Fault C_BadGame C_NoPerson C_NoWorld C_NoChoice : Addr}
def xBadGame (C : Addr) : Exn := (.ref C, [], [])
def P_counted (CB : Addr) : PrD := fun ds R Z => ∃ (cs : List Int), ds = [intsD cs] ∧ cs.length ≤ 1000 ∧ (FitC cs → R (.im (.int (prodI cs)))) ∧ (¬ FitC cs → Z (xBadGame CB))
theorem ok_counted (F : Df K mg "counted" s_counted ["choices"]) (gm : Gm K mg C_Game C_Fault C_BadGame C_NoPerson C_NoWorld C_NoChoice) : FnG P w K mg base (L2N.CX P w) 1 "counted" ["choices"] (spD K (P_counted C_BadGame)) := by
  refine F.okN (k := 0) sc_counted (fun ds R Z ⟨a, e, _⟩ => by rw [e] <;> rfl) (fun f cdv A outer s H E hr => ?_)
  refine ⟨_,
    (pss_cons (ps_if (PW.pt (pw_or (pt_cmpR opLt (cb (kLen K) gm.len (pa_cons (pv 0) pa_nil)) pe_int (nomark _)) (pw_or1 (pt_cmpR opGt (cb (kLen K) gm.len (pa_cons (pv 0) pa_nil)) (gl gm.MOST_PLAYERS) (nomark _))))) (pss_one (ps_r0 gm.BadGame_p rfl (L2N.takes_of rfl rfl rfl rfl))) pss_nil)
    (pss_cons (sv 1 sc_counted.nd pe_int)
    (pss_cons (ps_for (passes_of rfl) rfl (pl K (pv 0)) (gn 2 sc_counted.nd) (pss_cons (ps_if (PW.pt (pw_or (pt_cmpR opLt (pv 2) pe_int (nomark _)) (pw_or1 (pt_cmpR opGt (pv 2) (gl gm.MOST_CHOICES) (nomark _))))) (pss_one (ps_r0 gm.BadGame_p rfl (L2N.takes_of rfl rfl rfl rfl))) pss_nil) (pss_one (sv 1 sc_counted.nd (pe_op opMul (pv 1) (pv 2))))))
    (pss_cons (ps_if (pt_cmpR opGt (pv 1) (gl gm.MOST_OUTCOMES) (nomark _)) (pss_one (ps_r0 gm.BadGame_p rfl (L2N.takes_of rfl rfl rfl rfl))) pss_nil)
    (pss_one (ps_ret (pv 1))))))), fun ds R Z p => ?_⟩
  obtain ⟨cs, rfl, hl, p1, p2⟩ := p
  refine ws_to (ρ' := [.im (intsD cs), .no, .no]) rfl ?_
  walk_at "go"
  have hlen : ∀ ρ : Rho, ρ[0]? = some (.im (intsD cs)) → EvD K (tCB (rLenA K) (tCons (tVar 0) tNil)) ρ (.int (cs.length : Int)) := fun ρ e => (ev_cb (ea_cons (ev_var e) ea_nil) rc_len).is (by rw [List.length_map])
  refine wq_when (et_or (et_test (ev_op (hlen _ rfl) ev_int rv_lt)) fun _ => et_test (ev_op (hlen _ rfl) ev_int rv_gt)) (fun hb => ws_raise0 (p2 fun h => ?_)) (fun hb => ?_)
  · have hb : (cs.length : Int) < 1 ∨ 3 < (cs.length : Int) := by simpa using hb
    have := h.1
    omega
  have hb1 : 1 ≤ cs.length ∧ cs.length ≤ 3 := by
    have hb : 1 ≤ (cs.length : Int) ∧ (cs.length : Int) ≤ 3 := by simpa using hb
    omega
  refine wq_asg (d := .int 1) ev_int ?_
  dsimp only [List.set]
  refine wq_forL (xs := cs) (enc := .int) (ev_var rfl) (fun i u => ∃ s2, u = [(1, .im (.int (prodI (cs.take i)))), (2, s2)] ∧ ∀ m ∈ cs.take i, 1 ≤ m ∧ m ≤ 4) ⟨_, ⟨_, rfl, by simp⟩, rfl⟩ ?_ ?_
  · rintro i m u hm ⟨s2, rfl, hs⟩
    dsimp only [up, List.set]
    have hmem := List.mem_of_getElem? hm
    refine wq_when (et_or (et_test (ev_op (ev_var rfl) ev_int rv_lt)) fun _ => et_test (ev_op (ev_var rfl) ev_int rv_gt)) (fun hb => ws_raise0 (p2 fun h => ?_)) (fun hb => ?_)
    · have hb : m < 1 ∨ 4 < m := by simpa using hb
      have := h.2.1 m hmem
      omega
    have hb : 1 ≤ m ∧ m ≤ 4 := by simpa using hb
    refine ws_asg (d := .int (prodI (cs.take (i + 1)))) ((ev_op (ev_var rfl) (ev_var rfl) (rv_mul (cmul_right (by omega)))).is (by rw [prodI_take hm])) ⟨_, ⟨.im (.int m), rfl, fun x hx => ?_⟩, rfl⟩
    rw [List.take_add_one, hm] at hx
    rcases List.mem_append.mp hx with hx | hx
    · exact hs x hx
    · rw [List.mem_singleton.mp hx]
      exact hb
  · rintro u ⟨s2, rfl, hs⟩
    dsimp only [up, List.set]
    rw [List.take_length] at hs ⊢
    refine wq_when (et_test (ev_op (ev_var rfl) ev_int rv_gt)) (fun hb => ws_raise0 (p2 fun h => ?_)) (fun hb => ?_)
    · have hb : 12 < prodI cs := of_decide_eq_true hb
      have := h.2.2
      omega
    · have hb : ¬ 12 < prodI cs := of_decide_eq_false hb
      exact ws_ret (ev_var rfl) (p1 ⟨hb1, hs, by omega⟩)
def P_check_pays (CB : Addr) : PrD := fun ds R Z => ∃ (pays : List (List Int)) (n : Nat) (o : Int), ds = [rowsD pays, .int (n : Int), .int o] ∧ (FitP n o pays → R (.im .non)) ∧ (¬ FitP n o pays → Z (xBadGame CB))
theorem ok_check_pays (F : Df K mg "check_pays" s_check_pays ["pays", "people", "outcomes"]) (gm : Gm K mg C_Game C_Fault C_BadGame C_NoPerson C_NoWorld C_NoChoice) : FnG P w K mg base (L2N.CX P w) 1 "check_pays" ["pays", "people", "outcomes"] (spD K (P_check_pays C_BadGame)) := by
  refine F.okN (k := 0) sc_check_pays (fun ds R Z ⟨a, b, c, e, _⟩ => by rw [e] <;> rfl) (fun f cdv A outer s H E hr => ?_)
  refine ⟨_,
    (pss_cons (ps_if (pt_cmpR (kNe K hr.units) (cb (kLen K) gm.len (pa_cons (pv 0) pa_nil)) (pv 1) (nomark _)) (pss_one (ps_r0 gm.BadGame_p rfl (L2N.takes_of rfl rfl rfl rfl))) pss_nil)
    (pss_one (ps_for (passes_of rfl) rfl (pl K (pv 0)) (gn 3 sc_check_pays.nd) (pss_cons (ps_if (pt_cmpR (kNe K hr.units) (cb (kLen K) gm.len (pa_cons (pv 3) pa_nil)) (pv 2) (nomark _)) (pss_one (ps_r0 gm.BadGame_p rfl (L2N.takes_of rfl rfl rfl rfl))) pss_nil) (pss_one (ps_for (passes_of rfl) rfl (pl K (pv 3)) (gn 4 sc_check_pays.nd) (pss_one (ps_if (PW.pt (pw_or (pt_cmpR opLt (pv 4) (pe_un unNeg (gl gm.MOST_PAY)) (nomark _)) (pw_or1 (pt_cmpR opGt (pv 4) (gl gm.MOST_PAY) (nomark _))))) (pss_one (ps_r0 gm.BadGame_p rfl (L2N.takes_of rfl rfl rfl rfl))) pss_nil)))))))), fun ds R Z p => ?_⟩
  obtain ⟨pays, n, o, rfl, p1, p2⟩ := p
  refine ws_to (ρ' := [.im (rowsD pays), .im (.int (n : Int)), .im (.int o), .no, .no]) rfl ?_
  walk_at "go"
  refine wq_when (et_test (ev_op ((ev_cb (ea_cons (ev_var rfl) ea_nil) rc_len).is (by rw [List.length_map])) (ev_var rfl) rv_ne)) (fun hb => ws_raise0 (p2 fun h => ?_)) (fun hb => ?_)
  · have hb : ¬ (pays.length : Int) = (n : Int) := by simpa using hb
    have := h.1
    omega
  have hb0 : pays.length = n := by
    have hb : (pays.length : Int) = (n : Int) := by simpa using hb
    omega
  refine ws_forL (xs := pays) (enc := intsD) (ev_var rfl) (fun i u => ∃ s3 s4, u = [(3, s3), (4, s4)] ∧ ∀ r ∈ pays.take i, (r.length : Int) = o ∧ ∀ x ∈ r, -99 ≤ x ∧ x ≤ 99) ⟨_, ⟨_, _, rfl, by simp⟩, rfl⟩ ?_ ?_
  · rintro i r u hr' ⟨s3, s4, rfl, hs⟩
    dsimp only [up, List.set]
    have hmem := List.mem_of_getElem? hr'
    refine wq_when (et_test (ev_op ((ev_cb (ea_cons (ev_var rfl) ea_nil) rc_len).is (by rw [List.length_map])) (ev_var rfl) rv_ne)) (fun hb => ws_raise0 (p2 fun h => ?_)) (fun hb => ?_)
    · have hb : ¬ (r.length : Int) = o := by simpa using hb
      exact hb (h.2 r hmem).1
    have hb1 : (r.length : Int) = o := by simpa using hb
    refine ws_forL (xs := r) (enc := .int) (ev_var rfl) (fun j u => ∃ s4, u = [(4, s4)] ∧ ∀ x ∈ r.take j, -99 ≤ x ∧ x ≤ 99) ⟨_, ⟨_, rfl, by simp⟩, rfl⟩ ?_ ?_
    · rintro j x u hx ⟨s4, rfl, hs4⟩
      dsimp only [up, List.set]
      have hxm := List.mem_of_getElem? hx
      refine ws_if (et_or (et_test (ev_op (ev_var rfl) (ev_un ev_int ru_neg) rv_lt)) fun _ => et_test (ev_op (ev_var rfl) ev_int rv_gt)) (fun hb => ws_raise0 (p2 fun h => ?_)) (fun hb => ?_)
      · have hb : x < -99 ∨ 99 < x := by simpa using hb
        have := (h.2 r hmem).2 x hxm
        omega
      · have hb : -99 ≤ x ∧ x ≤ 99 := by simpa using hb
        refine ws_next ⟨_, ⟨.im (.int x), rfl, fun y hy => ?_⟩, rfl⟩
        rw [List.take_add_one, hx] at hy
        rcases List.mem_append.mp hy with hy | hy
        · exact hs4 y hy
        · rw [List.mem_singleton.mp hy]
          exact hb
    · rintro u ⟨s4, rfl, hs4⟩
      dsimp only [up, List.set]
      rw [List.take_length] at hs4
      refine ⟨_, ⟨.im (intsD r), s4, rfl, fun y hy => ?_⟩, rfl⟩
      rw [List.take_add_one, hr'] at hy
      rcases List.mem_append.mp hy with hy | hy
      · exact hs y hy
      · rw [List.mem_singleton.mp hy]
        exact ⟨hb1, hs4⟩
  · rintro u ⟨s3, s4, rfl, hs⟩
    rw [List.take_length] at hs
    exact p1 ⟨hb0, hs⟩
end
end FS
set_option Elab.async false
set_option linter.all false
set_option maxRecDepth 100000
set_option maxHeartbeats 4000000
set_option exponentiation.threshold 20000
namespace FS
open PySem PySem.Spec PyProof.Rows L2

local macro_rules | `(tactic| walk_at "side") => `(tactic| first | assumption | omega | decide)
local macro_rules | `(tactic| walk_at "hv") => `(tactic| (intro i hi; simp at hi; first | (subst hi; rfl) | (rcases hi with rfl | rfl <;> rfl) | (rcases hi with rfl | rfl | rfl <;> rfl)))
local macro_rules | `(tactic| walk_at "pr") => `(tactic| fail "no promise")
local macro_rules | `(tactic| walk_at "rv") => `(tactic| first
  | (with_reducible exact rv_add) | (with_reducible exact rv_sub) | (with_reducible exact rv_lt) | (with_reducible exact rv_le) | (with_reducible exact rv_gt) | (with_reducible exact rv_ge) | (with_reducible exact rv_eq) | (with_reducible exact rv_ne)
  | (with_reducible exact rv_is) | (with_reducible exact rv_isnot)
  | ((with_reducible apply rv_div); first | assumption | exact cdiv_small (by omega) (by omega))
  | ((with_reducible apply rv_mod); first | assumption | omega)
  | ((with_reducible apply rv_mul); first | assumption | exact cmul_left (by omega) | exact cmul_right (by omega))
  | ((with_reducible apply rv_mulW); assumption)
  | (with_reducible exact rv_p8) | (with_reducible exact rv_p18) | (with_reducible exact rv_p40) | (with_reducible exact rv_p20) | (with_reducible exact rv_p6) | (with_reducible exact rv_p7) | (with_reducible exact rv_p12) | (with_reducible exact rv_p25) | (with_reducible exact rv_p30) | (with_reducible exact rv_p39) | (with_reducible exact rv_p60)
  | ((with_reducible apply rv_ixxL); first | assumption | exact at_getD (by omega) (by omega) | exact at_nat rfl)
  | ((with_reducible apply rv_ixxT); first | assumption | exact at_getD (by omega) (by omega) | exact at_nat rfl)
  | ((with_reducible apply rv_ixxC); first | assumption)
  | (with_reducible exact ru_neg))
local macro_rules | `(tactic| walk_at "isi") => `(tactic| first | (with_reducible exact isi_non_int) | (with_reducible exact isi_non_bool) | (with_reducible exact isi_non_str) | (with_reducible exact isi_non_tuple) | (with_reducible exact isi_non_list) | (with_reducible exact isi_bl_int) | (with_reducible exact isi_bl_bool) | (with_reducible exact isi_bl_str) | (with_reducible exact isi_bl_tuple) | (with_reducible exact isi_bl_list) | (with_reducible exact isi_int_int) | (with_reducible exact isi_int_bool) | (with_reducible exact isi_int_str) | (with_reducible exact isi_int_tuple) | (with_reducible exact isi_int_list) | (with_reducible exact isi_str_int) | (with_reducible exact isi_str_bool) | (with_reducible exact isi_str_str) | (with_reducible exact isi_str_tuple) | (with_reducible exact isi_str_list) | (with_reducible exact isi_tup_int) | (with_reducible exact isi_tup_bool) | (with_reducible exact isi_tup_str) | (with_reducible exact isi_tup_tuple) | (with_reducible exact isi_tup_list) | (with_reducible exact isi_lst_int) | (with_reducible exact isi_lst_bool) | (with_reducible exact isi_lst_str) | (with_reducible exact isi_lst_tuple) | (with_reducible exact isi_lst_list))
local macro_rules | `(tactic| walk_at "rc") => `(tactic| first
  | walk_at "isi"
  | (with_reducible exact rc_len) | (with_reducible exact rc_lent) | (with_reducible exact rc_lenc) | (with_reducible exact rc_toint) | (with_reducible exact rc_absv) | (with_reducible exact rc_gcd)
  | ((with_reducible apply rc_lcm); assumption)
  | ((with_reducible apply rc_isi); (focus rfl); assumption)
  | (with_reducible exact rco_list) | (with_reducible exact rco_listT))
local macro_rules | `(tactic| walk_at "ev") => `(tactic| first
  | (with_reducible exact ev_int) | (with_reducible exact ev_bl) | (with_reducible exact ev_non) | (with_reducible exact ev_str) | (with_reducible exact ev_ty)
  | ((with_reducible apply ev_var); rfl)
  | ((with_reducible apply ev_lenOw); rfl)
  | ((with_reducible apply ev_op) <;> first | walk_at "ev" | walk_at "rv")
  | ((with_reducible apply ev_un) <;> first | walk_at "ev" | walk_at "rv")
  | ((with_reducible apply ev_cb) <;> first | walk_at "ev" | walk_at "rc")
  | ((with_reducible apply ev_call) <;> first | walk_at "ev" | walk_at "pr")
  | ((with_reducible apply ev_tup) <;> first | walk_at "ev" | (simp; done))
  | (with_reducible exact ea_nil)
  | ((with_reducible apply ea_cons) <;> walk_at "ev")
  | ((with_reducible apply et_test); walk_at "ev")
  | ((with_reducible apply et_B); walk_at "ev")
  | ((with_reducible apply et_not); walk_at "ev")
  | ((with_reducible apply et_or); (walk_at "ev"); intro _; walk_at "ev")
  | ((with_reducible apply et_and); (walk_at "ev"); intro _; walk_at "ev")
  | ((with_reducible apply ev_orV); (walk_at "ev"); intro _; walk_at "ev")
  | ((with_reducible apply ev_andV); (walk_at "ev"); intro _; walk_at "ev")
  | ((with_reducible apply ev_notV); walk_at "ev")
  | (with_reducible exact et_yes)
  | ((with_reducible apply evo_lst) <;> first | walk_at "ev" | (simp; done))
  | ((with_reducible apply ev_opO) <;> first | walk_at "ev" | ((with_reducible apply rvo_add); simp; omega))
  | ((with_reducible apply ev_cbO) <;> first | walk_at "ev" | walk_at "rc")
  | ((with_reducible apply ev_callO) <;> first | walk_at "ev" | walk_at "pr")
  | ((with_reducible apply ec_call) <;> first | walk_at "ev" | walk_at "pr")
  | ((with_reducible apply ec_tup) <;> first | walk_at "ev" | (simp; done))
  | ((with_reducible apply ec_lst) <;> first | walk_at "ev" | (simp; done))
  | (with_reducible exact eca_nil)
  | ((with_reducible apply eca_cons) <;> walk_at "ev")
  | ((with_reducible apply ec_sc); (walk_at "ev"); rfl)
  | ((with_reducible apply ec_ow); (walk_at "ev"); first | assumption | (intro d hd; simp at hd; done))
  | ((with_reducible apply ec_fz); walk_at "ev")
  | ((with_reducible apply ev_fz); walk_at "ev"))

local macro_rules | `(tactic| walk_at "im") => `(tactic| ((with_reducible apply wq_asg); walk_at "ev"; (try dsimp only [List.set, Int.reduceToNat])))
local macro_rules | `(tactic| walk_at "ow") => `(tactic| ((with_reducible apply wq_asgO); walk_at "ev"; (focus (first | decide | (simp; done))); (try dsimp only [List.set, Int.reduceToNat])))
local macro_rules | `(tactic| walk_at "cl") => `(tactic| ((with_reducible apply wq_asgC); walk_at "ev"; (focus (first | decide | (simp; done))); (try dsimp only [List.set, Int.reduceToNat])))
local macro_rules | `(tactic| walk_at "if") => `(tactic| ((first | (with_reducible apply wq_when) | (with_reducible apply wq_if) | (with_reducible apply ws_if)); walk_at "ev"; (try dsimp only [Int.reduceToNat])))
local macro_rules | `(tactic| walk_at "ret") => `(tactic| ((with_reducible apply ws_ret); walk_at "ev"))
local macro_rules | `(tactic| walk_at "go") => `(tactic| (try dsimp only [cxOf, L2.Cx.nox, L2.Cx.wish, L2.Cx.blk]))
local macro_rules | `(tactic| walk_at "ints") => `(tactic| (refine ev_fz (evo_lst ?_ (by decide)); repeat (first | exact ea_nil | refine ea_cons ev_int ?_)))

/-- self.f = e, e raises -/
theorem wq_fldZ {K : PySem.W.Frag} {E : L2.WX} {ρ : Rho} {P : Pst} {te ta : TE} {tz : TS} {f : Str} {z : Exn} (h : EvZ K E te ρ z) (hz : P.ex ρ z) : Ws K E (tSeq (sFld K ta te f) tz) ρ P := ws_seq fun M T0 H T σ Dn en k =>
  h M T0 H T σ [] _ en fun od H' T' s' t' e' hx => k.ex ρ σ z.1 z.2.1 z.2.2 od H' T' hz s' e' hx

/-! ### a game is made -/
def allC : List (List Int) := [1, 2, 3, 4].flatMap fun a => [a] :: [1, 2, 3, 4].flatMap fun b => [a, b] :: [1, 2, 3, 4].map fun c => [a, b, c]
theorem fit_all {cs : List Int} (h : FitC cs) : cs ∈ allC := by
  obtain ⟨h1, h2, _⟩ := h
  have m4 : ∀ m : Int, 1 ≤ m ∧ m ≤ 4 → m ∈ ([1, 2, 3, 4] : List Int) := fun m hm => by
    have : m = 1 ∨ m = 2 ∨ m = 3 ∨ m = 4 := by omega
    simpa using this
  match cs, h1, h2 with
  | [a], _, h2 => exact List.mem_flatMap.mpr ⟨a, m4 a (h2 a (by simp)), List.mem_cons_self⟩
  | [a, b], _, h2 => exact List.mem_flatMap.mpr ⟨a, m4 a (h2 a (by simp)), List.mem_cons_of_mem _ (List.mem_flatMap.mpr ⟨b, m4 b (h2 b (by simp)), List.mem_cons_self⟩)⟩
  | [a, b, c], _, h2 => exact List.mem_flatMap.mpr ⟨a, m4 a (h2 a (by simp)), List.mem_cons_of_mem _ (List.mem_flatMap.mpr ⟨b, m4 b (h2 b (by simp)), List.mem_cons_of_mem _ (List.mem_map.mpr ⟨c, m4 c (h2 c (by simp)), rfl⟩)⟩)⟩
  | [], h1, _ => simp at h1
  | _ :: _ :: _ :: _ :: _, h1, _ => simp at h1
theorem stepsF_snoc (c : Int) : ∀ (cs : List Int) (s : Int), stepsF s (cs ++ [c]) = stepsF s cs ++ [cs.foldl (fun s m => s / m) s / c]
  | [], s => rfl
  | d :: cs, s => by
    rw [List.cons_append, stepsF, stepsF, stepsF_snoc c cs, List.foldl_cons]
    rfl
theorem stepsF_len : ∀ (cs : List Int) (s : Int), (stepsF s cs).length = cs.length
  | [], s => rfl
  | d :: cs, s => by rw [stepsF, List.length_cons, List.length_cons, stepsF_len cs]
section
variable {P : Program} {w : World} {K : PySem.W.Frag} {mg : Str → Option Value} {base : Heap} {C_Game C_Fault C_BadGame C_NoPerson C_NoWorld C_NoChoice : Addr}
def P_game (C CB : Addr) (ds : List D) (R : D → Prop) (Z : Exn → Prop) : Prop := ∃ (cs : List Int) (pays : List (List Int)), ds = [intsD cs, rowsD pays] ∧ cs.length ≤ 1000 ∧ (Fits cs pays → R (gameD C ⟨cs, pays⟩)) ∧ (¬ Fits cs pays → Z (xBadGame CB))
theorem ok_Game_init (F : Di K mg C_Game "Game" "Game.__init__" s_Game_init ["self", "choices", "pays"]) (gm : Gm K mg C_Game C_Fault C_BadGame C_NoPerson C_NoWorld C_NoChoice) (G_counted : FnG P w K mg base (L2N.CX P w) 1 "counted" ["choices"] (spD K (P_counted C_BadGame))) (G_check_pays : FnG P w K mg base (L2N.CX P w) 1 "check_pays" ["pays", "people", "outcomes"] (spD K (P_check_pays C_BadGame))) : FnI P w K mg base (L2N.CX P w) 2 C_Game "Game" ["self", "choices", "pays"] (spMk K C_Game (P_game C_Game C_BadGame)) := by
  refine F.okN (k := 1) sc_Game_init (fun ds R Z ⟨a, b, e, _⟩ => by rw [e] <;> rfl) (fun f cdv A outer s H E hr => ?_)
  refine ⟨_,
    (pss_cons (fs K (pv 0) (pe_gX G_counted hr.le (L2N.takes_of rfl rfl rfl rfl) (pa_cons (pv 1) pa_nil)))
    (pss_cons (fs K (pv 0) (cb (kLen K) gm.len (pa_cons (pv 1) pa_nil)))
    (pss_cons (ps_expr (pe_gX G_check_pays hr.le (L2N.takes_of rfl rfl rfl rfl) (pa_cons (pv 2) (pa_cons (fl K (pv 0)) (pa_cons (fl K (pv 0)) pa_nil)))))
    (pss_cons (fs K (pv 0) (ct (kList K) gm.list (pa_cons (pv 1) pa_nil)))
    (pss_cons (fs K (pv 0) (pe_lc (own := [("row", 3)]) rfl sc_Game_init.nd (pl K (pv 2)) (blkOk_by (N := N_Game_init) (sc := defScope s_Game_init) (by decide +kernel)) (fun _ _ _ _ _ => (gn 3 sc_Game_init.nd)) (fun _ _ _ _ _ => pts_nil) (fun _ _ _ _ _ => (ct (kList K) gm.list (pa_cons (pv 3) pa_nil)))))
    (pss_cons (fs K (pv 0) (pe_lst pa_nil))
    (pss_cons (sv 4 sc_Game_init.nd (fl K (pv 0)))
    (pss_one (ps_for (passes_of rfl) rfl (pl K (pv 1)) (gn 5 sc_Game_init.nd) (pss_cons (sv 4 sc_Game_init.nd (pe_op opDiv (pv 4) (pv 5))) (pss_one (ps_expr (ml_append K (fl K (pv 0)) (pa_cons (pv 4) pa_nil)))))))))))))), fun a ds R Z p => ?_⟩
  obtain ⟨cs, pays, rfl, hl, p1, p2⟩ := p
  refine ws_to (ρ' := [.cl (.slf a C_Game [] []), .im (intsD cs), .im (rowsD pays), .no, .no, .no]) rfl ?_
  walk_at "go"
  by_cases hc : FitC cs
  case neg => exact wq_fldZ (ez_call (z := xBadGame C_BadGame) (ea_cons (ev_var rfl) ea_nil) ⟨cs, rfl, hl, fun h => absurd h hc, fun _ => rfl⟩) (p2 fun h => hc h.1)
  refine wq_fld (x := .int (prodI cs)) rfl (ec_sc (ev_callS (ea_cons (ev_var rfl) ea_nil) ⟨cs, rfl, hl, fun _ => rfl, fun h => absurd hc h⟩) rfl) rfl (by decide) (by decide) gm.Game_c gm.Game_outcomes ?_
  dsimp only [List.set, List.append, List.nil_append, List.cons_append]
  refine wq_fld (x := .int (cs.length : Int)) rfl (ec_sc ((ev_cb (ea_cons (ev_var rfl) ea_nil) rc_len).is (by rw [List.length_map])) rfl) rfl (by decide) (by decide) gm.Game_c gm.Game_people ?_
  dsimp only [List.set, List.append, List.nil_append, List.cons_append]
  refine wq_dropX (ea_cons (ev_var rfl) (ea_cons (ev_spotS (i := 0) (π := [1]) (s := .int (cs.length : Int)) rfl (el_self rfl (by decide) (by show 1 < 2; decide) gm.Game_c gm.Game_people) rfl rfl) (ea_cons (ev_spotS (i := 0) (π := [0]) (s := .int (prodI cs)) rfl (el_self rfl (by decide) (by show 0 < 2; decide) gm.Game_c gm.Game_outcomes) rfl rfl) ea_nil))) ⟨pays, cs.length, prodI cs, rfl, fun hp _ => ?_, fun h => p2 fun q => h q.2⟩
  have hf : Fits cs pays := ⟨hc, hp⟩
  have hpl := hp.1
  have hcl := hc.1
  refine wq_fld (x := intsD cs) rfl (ec_ow (ev_cbO (ea_cons (ev_var rfl) ea_nil) rco_list) (scal_ints _)) rfl (by decide) (by decide) gm.Game_c gm.Game__choices ?_
  dsimp only [List.set, List.append, List.nil_append, List.cons_append]
  refine wq_fld (x := rowsD pays) rfl (lc_LC (xs := pays) (enc := intsD) intsD (ev_var rfl) rfl (fun r hr => ec_ow (ev_cbO (ea_cons (ev_var rfl) ea_nil) rco_list) (scal_ints _)) (by omega)) rfl (by decide) (by decide) gm.Game_c gm.Game__pays ?_
  dsimp only [List.set, List.append, List.nil_append, List.cons_append]
  refine wq_fld (x := .lst []) rfl (ec_lst eca_nil (by simp)) rfl (by decide) (by decide) gm.Game_c gm.Game__steps ?_
  dsimp only [List.set, List.append, List.nil_append, List.cons_append]
  refine wq_asg (d := .int (prodI cs)) (ev_spotS (i := 0) (π := [0]) rfl (el_self rfl (by decide) (by show 0 < 5; decide) gm.Game_c gm.Game_outcomes) rfl rfl) ?_
  dsimp only [List.set]
  refine ws_forL (xs := cs) (enc := .int) (ev_var rfl) (fun i u => ∃ s5, u = [(0, .cl (.slf a C_Game gameNs [.int (prodI cs), .int (cs.length : Int), intsD cs, rowsD pays, intsD (stepsF (prodI cs) (cs.take i))])), (4, .im (.int ((cs.take i).foldl (fun s m => s / m) (prodI cs)))), (5, s5)]) ⟨_, ⟨_, rfl⟩, rfl⟩ ?_ ?_
  · rintro i m u hm ⟨s5, rfl⟩
    dsimp only [up, List.set]
    have hmb := hc.2.1 m (List.mem_of_getElem? hm)
    have hi : i < cs.length := (List.getElem?_eq_some_iff.mp hm).1
    refine wq_asg (d := .int ((cs.take i).foldl (fun s m => s / m) (prodI cs) / m)) (ev_op (ev_var rfl) (ev_var rfl) (rv_div (cdiv_small (by omega) (by omega)))) ?_
    dsimp only [List.set]
    refine ws_appP (i := 0) (π := [4]) (l := (stepsF (prodI cs) (cs.take i)).map .int) rfl (el_self rfl (by decide) (by show 4 < 5; decide) gm.Game_c gm.Game__steps) rfl (ec_sc (ev_var rfl) rfl) (by rw [List.length_map, stepsF_len, List.length_take]; omega) ?_
    dsimp only [List.set]
    refine ⟨_, ⟨.im (.int m), rfl⟩, ?_⟩
    have e1 : (cs.take (i + 1)).foldl (fun s m => s / m) (prodI cs) = (cs.take i).foldl (fun s m => s / m) (prodI cs) / m := by
      rw [List.take_add_one, hm, List.foldl_append]
      rfl
    have e2 : stepsF (prodI cs) (cs.take (i + 1)) = stepsF (prodI cs) (cs.take i) ++ [(cs.take i).foldl (fun s m => s / m) (prodI cs) / m] := by
      rw [List.take_add_one, hm]
      exact stepsF_snoc _ _ _
    dsimp only [up, List.set]
    have e3 : ∀ a b : List Int, intsD (a ++ b) = .lst (a.map .int ++ b.map .int) := fun a b => by rw [intsD, List.map_append]
    rw [e1, e2, e3]
    rfl
  · rintro u ⟨s5, rfl⟩
    dsimp only [up, List.set]
    rw [List.take_length]
    exact ⟨_, _, rfl, p1 hf⟩
end
end FS
set_option Elab.async false
set_option linter.all false
set_option maxRecDepth 100000
set_option maxHeartbeats 4000000
set_option exponentiation.threshold 20000
namespace FS
open PySem PySem.Spec PyProof.Rows L2

local macro_rules | `(tactic| walk_at "side") => `(tactic| first | assumption | omega | decide)
local macro_rules | `(tactic| walk_at "hv") => `(tactic| (intro i hi; simp at hi; first | (subst hi; rfl) | (rcases hi with rfl | rfl <;> rfl) | (rcases hi with rfl | rfl | rfl <;> rfl)))
local macro_rules | `(tactic| walk_at "pr") => `(tactic| fail "no promise")
local macro_rules | `(tactic| walk_at "rv") => `(tactic| first
  | (with_reducible exact rv_add) | (with_reducible exact rv_sub) | (with_reducible exact rv_lt) | (with_reducible exact rv_le) | (with_reducible exact rv_gt) | (with_reducible exact rv_ge) | (with_reducible exact rv_eq) | (with_reducible exact rv_ne)
  | (with_reducible exact rv_is) | (with_reducible exact rv_isnot)
  | ((with_reducible apply rv_div); first | assumption | exact cdiv_small (by omega) (by omega))
  | ((with_reducible apply rv_mod); first | assumption | omega)
  | ((with_reducible apply rv_mul); first | assumption | exact cmul_left (by omega) | exact cmul_right (by omega))
  | ((with_reducible apply rv_mulW); assumption)
  | (with_reducible exact rv_p8) | (with_reducible exact rv_p18) | (with_reducible exact rv_p40) | (with_reducible exact rv_p20) | (with_reducible exact rv_p6) | (with_reducible exact rv_p7) | (with_reducible exact rv_p12) | (with_reducible exact rv_p25) | (with_reducible exact rv_p30) | (with_reducible exact rv_p39) | (with_reducible exact rv_p60)
  | ((with_reducible apply rv_ixxL); first | assumption | exact at_getD (by omega) (by omega) | exact at_nat rfl)
  | ((with_reducible apply rv_ixxT); first | assumption | exact at_getD (by omega) (by omega) | exact at_nat rfl)
  | ((with_reducible apply rv_ixxC); first | assumption)
  | (with_reducible exact ru_neg))
local macro_rules | `(tactic| walk_at "isi") => `(tactic| first | (with_reducible exact isi_non_int) | (with_reducible exact isi_non_bool) | (with_reducible exact isi_non_str) | (with_reducible exact isi_non_tuple) | (with_reducible exact isi_non_list) | (with_reducible exact isi_bl_int) | (with_reducible exact isi_bl_bool) | (with_reducible exact isi_bl_str) | (with_reducible exact isi_bl_tuple) | (with_reducible exact isi_bl_list) | (with_reducible exact isi_int_int) | (with_reducible exact isi_int_bool) | (with_reducible exact isi_int_str) | (with_reducible exact isi_int_tuple) | (with_reducible exact isi_int_list) | (with_reducible exact isi_str_int) | (with_reducible exact isi_str_bool) | (with_reducible exact isi_str_str) | (with_reducible exact isi_str_tuple) | (with_reducible exact isi_str_list) | (with_reducible exact isi_tup_int) | (with_reducible exact isi_tup_bool) | (with_reducible exact isi_tup_str) | (with_reducible exact isi_tup_tuple) | (with_reducible exact isi_tup_list) | (with_reducible exact isi_lst_int) | (with_reducible exact isi_lst_bool) | (with_reducible exact isi_lst_str) | (with_reducible exact isi_lst_tuple) | (with_reducible exact isi_lst_list))
local macro_rules | `(tactic| walk_at "rc") => `(tactic| first
  | walk_at "isi"
  | (with_reducible exact rc_len) | (with_reducible exact rc_lent) | (with_reducible exact rc_lenc) | (with_reducible exact rc_toint) | (with_reducible exact rc_absv) | (with_reducible exact rc_gcd)
  | ((with_reducible apply rc_lcm); assumption)
  | ((with_reducible apply rc_isi); (focus rfl); assumption)
  | (with_reducible exact rco_list) | (with_reducible exact rco_listT))
local macro_rules | `(tactic| walk_at "ev") => `(tactic| first
  | (with_reducible exact ev_int) | (with_reducible exact ev_bl) | (with_reducible exact ev_non) | (with_reducible exact ev_str) | (with_reducible exact ev_ty)
  | ((with_reducible apply ev_var); rfl)
  | ((with_reducible apply ev_lenOw); rfl)
  | ((with_reducible apply ev_op) <;> first | walk_at "ev" | walk_at "rv")
  | ((with_reducible apply ev_un) <;> first | walk_at "ev" | walk_at "rv")
  | ((with_reducible apply ev_cb) <;> first | walk_at "ev" | walk_at "rc")
  | ((with_reducible apply ev_call) <;> first | walk_at "ev" | walk_at "pr")
  | ((with_reducible apply ev_tup) <;> first | walk_at "ev" | (simp; done))
  | (with_reducible exact ea_nil)
  | ((with_reducible apply ea_cons) <;> walk_at "ev")
  | ((with_reducible apply et_test); walk_at "ev")
  | ((with_reducible apply et_B); walk_at "ev")
  | ((with_reducible apply et_not); walk_at "ev")
  | ((with_reducible apply et_or); (walk_at "ev"); intro _; walk_at "ev")
  | ((with_reducible apply et_and); (walk_at "ev"); intro _; walk_at "ev")
  | ((with_reducible apply ev_orV); (walk_at "ev"); intro _; walk_at "ev")
  | ((with_reducible apply ev_andV); (walk_at "ev"); intro _; walk_at "ev")
  | ((with_reducible apply ev_notV); walk_at "ev")
  | (with_reducible exact et_yes)
  | ((with_reducible apply evo_lst) <;> first | walk_at "ev" | (simp; done))
  | ((with_reducible apply ev_opO) <;> first | walk_at "ev" | ((with_reducible apply rvo_add); simp; omega))
  | ((with_reducible apply ev_cbO) <;> first | walk_at "ev" | walk_at "rc")
  | ((with_reducible apply ev_callO) <;> first | walk_at "ev" | walk_at "pr")
  | ((with_reducible apply ec_call) <;> first | walk_at "ev" | walk_at "pr")
  | ((with_reducible apply ec_tup) <;> first | walk_at "ev" | (simp; done))
  | ((with_reducible apply ec_lst) <;> first | walk_at "ev" | (simp; done))
  | (with_reducible exact eca_nil)
  | ((with_reducible apply eca_cons) <;> walk_at "ev")
  | ((with_reducible apply ec_sc); (walk_at "ev"); rfl)
  | ((with_reducible apply ec_ow); (walk_at "ev"); first | assumption | (intro d hd; simp at hd; done))
  | ((with_reducible apply ec_fz); walk_at "ev")
  | ((with_reducible apply ev_fz); walk_at "ev"))

local macro_rules | `(tactic| walk_at "im") => `(tactic| ((with_reducible apply wq_asg); walk_at "ev"; (try dsimp only [List.set, Int.reduceToNat])))
local macro_rules | `(tactic| walk_at "ow") => `(tactic| ((with_reducible apply wq_asgO); walk_at "ev"; (focus (first | decide | (simp; done))); (try dsimp only [List.set, Int.reduceToNat])))
local macro_rules | `(tactic| walk_at "cl") => `(tactic| ((with_reducible apply wq_asgC); walk_at "ev"; (focus (first | decide | (simp; done))); (try dsimp only [List.set, Int.reduceToNat])))
local macro_rules | `(tactic| walk_at "if") => `(tactic| ((first | (with_reducible apply wq_when) | (with_reducible apply wq_if) | (with_reducible apply ws_if)); walk_at "ev"; (try dsimp only [Int.reduceToNat])))
local macro_rules | `(tactic| walk_at "ret") => `(tactic| ((with_reducible apply ws_ret); walk_at "ev"))
local macro_rules | `(tactic| walk_at "go") => `(tactic| (try dsimp only [cxOf, L2.Cx.nox, L2.Cx.wish, L2.Cx.blk]))
local macro_rules | `(tactic| walk_at "ints") => `(tactic| (refine ev_fz (evo_lst ?_ (by decide)); repeat (first | exact ea_nil | refine ea_cons ev_int ?_)))

/-! ### its methods -/
def stepN (cs : List Int) (q : Nat) : Int := (stepsF (prodI cs) cs).getD q 0
def chosenN (cs : List Int) (q : Nat) (o : Int) : Int := o / stepN cs q % cs.getD q 0
def okC (cs : List Int) : Bool := (List.range cs.length).all fun q => decide (1 ≤ stepN cs q) && decide (stepN cs q ≤ 64) && decide (1 ≤ cs.getD q 0) && decide (cs.getD q 0 ≤ 4)
theorem allC_ok : ∀ cs ∈ allC, okC cs = true := by decide +kernel
theorem fit_step {cs : List Int} (h : FitC cs) {q : Nat} (hq : q < cs.length) : 1 ≤ stepN cs q ∧ stepN cs q ≤ 64 ∧ 1 ≤ cs.getD q 0 ∧ cs.getD q 0 ≤ 4 := by
  have := List.all_eq_true.mp (allC_ok cs (fit_all h)) q (List.mem_range.mpr hq)
  simpa [and_assoc] using this
/-- what a door tells -/
def refuse (cp cw : Addr) (cs : List Int) (q o : Int) : Option Exn := if ¬ (0 ≤ q ∧ q < cs.length) then some (xNoPerson cp q) else if ¬ (0 ≤ o ∧ o < prodI cs) then some (xNoWorld cw o) else none
section
variable {P : Program} {w : World} {K : PySem.W.Frag} {mg : Str → Option Value} {base : Heap} {C_Game C_Fault C_BadGame C_NoPerson C_NoWorld C_NoChoice : Addr}
def P_choices (C : Addr) : PrD := fun ds R Z => ∃ g : GameM, ds = [gameD C g] ∧ R (.cl (intsD g.choices))
theorem ok_Game_choices (F : Dm K C_Game "choices" "Game.choices" s_Game_choices ["self"]) (gm : Gm K mg C_Game C_Fault C_BadGame C_NoPerson C_NoWorld C_NoChoice) : FnM P w K mg base CX0 1 C_Game "choices" ["self"] (spD K (P_choices C_Game)) := by
  refine F.ok (k := 0) sc_Game_choices (fun ds R Z ⟨a, e, _⟩ => by rw [e] <;> rfl) (fun f cdv A outer s H E hr => ?_)
  refine ⟨_,
    (pss_one (ps_ret (ct (kList K) gm.list (pa_cons (fl K (pv 0)) pa_nil)))), fun ds R Z p => ?_⟩
  obtain ⟨g, rfl, p⟩ := p
  refine ws_to (ρ' := [.im (gameD C_Game g)]) rfl ?_
  walk_at "go"
  exact ws_retC (ec_ow (ev_cbO (ea_cons (ev_fld (l := gameL g) (ns := gameNs) (j := 2) (d := intsD g.choices) (ev_var rfl) (by decide) rfl gm.Game_c gm.Game__choices) ea_nil) rco_list) (scal_ints _)) p
theorem pr_choices {C : Addr} {g : GameM} : P_choices C [gameD C g] (fun s => s = .cl (intsD g.choices)) (fun _ => False) := ⟨g, rfl, rfl⟩
def P_check_choice (C CC : Addr) : PrD := fun ds R Z => ∃ (g : GameM) (q : Nat) (c : Int), ds = [gameD C g, .int (q : Int), .int c] ∧ q < g.choices.length ∧ (0 ≤ c ∧ c < g.choices.getD q 0 → R (.im .non)) ∧ (¬ (0 ≤ c ∧ c < g.choices.getD q 0) → Z (xNoChoice CC c))
theorem ok_check_choice (F : Df K mg "check_choice" s_check_choice ["game", "person", "choice"]) (gm : Gm K mg C_Game C_Fault C_BadGame C_NoPerson C_NoWorld C_NoChoice) (G_NoChoice : FnX P w K mg base 1 "NoChoice" C_NoChoice ["choice"]) (G_Game_choices : FnM P w K mg base CX0 1 C_Game "choices" ["self"] (spD K (P_choices C_Game))) : FnG P w K mg base (L2N.CX P w) 3 "check_choice" ["game", "person", "choice"] (spD K (P_check_choice C_Game C_NoChoice)) := by
  refine F.okN (k := 2) sc_check_choice (fun ds R Z ⟨a, b, c, e, _⟩ => by rw [e] <;> rfl) (fun f cdv A outer s H E hr => ?_)
  refine ⟨_,
    (pss_one (ps_if (PW.pt (pw_or (pt_cmpR opLt (pv 2) pe_int (nomark _)) (pw_or1 (pt_cmpR opGe (pv 2) (ix K (pe_m0 G_Game_choices gm.Game_c hr.le pass0 (pv 0)) (pv 1)) (nomark _))))) (pss_one (ps_rx G_NoChoice rfl hr.le (L2N.takes_of rfl rfl rfl rfl) pass0 (pa_cons (pv 2) pa_nil))) pss_nil)), fun ds R Z p => ?_⟩
  obtain ⟨g, q, c, rfl, hq, p1, p2⟩ := p
  refine ws_to (ρ' := [.im (gameD C_Game g), .im (.int (q : Int)), .im (.int c)]) rfl ?_
  walk_at "go"
  refine ws_if (et_or (et_test (ev_op (ev_var rfl) ev_int rv_lt)) fun _ => et_test (ev_op (ev_var rfl) (ev_op (ec_fz (ec_meth (ev_var rfl) (by decide) ea_nil pr_choices)) (ev_var rfl) (rv_ixxL (at_ints hq))) rv_ge)) (fun hb => ?_) (fun hb => ?_)
  · refine ws_rx (ds := [.int c]) (by walk_at "ev") rfl (by simp) (p2 fun h => ?_)
    have hb : c < 0 ∨ g.choices.getD q 0 ≤ c := by simpa using hb
    omega
  · have hb : 0 ≤ c ∧ c < g.choices.getD q 0 := by simpa using hb
    exact ws_next (p1 hb)
def P_chosen (C CP CW : Addr) : PrD := fun ds R Z => ∃ (g : GameM) (q o : Int), ds = [gameD C g, .int q, .int o] ∧ FitC g.choices ∧ (refuse CP CW g.choices q o = none → R (.im (.int (chosenN g.choices q.toNat o)))) ∧ ∀ z, refuse CP CW g.choices q o = some z → Z z
theorem ok_Game_chosen (F : Dm K C_Game "chosen" "Game.chosen" s_Game_chosen ["self", "person", "outcome"]) (gm : Gm K mg C_Game C_Fault C_BadGame C_NoPerson C_NoWorld C_NoChoice) (G_check_player : FnG P w K mg base (L2N.CX P w) 3 "check_player" ["game", "person"] (spD K (P_check_player C_Game C_NoPerson))) (G_check_outcome : FnG P w K mg base (L2N.CX P w) 3 "check_outcome" ["game", "outcome"] (spD K (P_check_outcome C_Game C_NoWorld))) : FnM P w K mg base (L2N.CX P w) 4 C_Game "chosen" ["self", "person", "outcome"] (spD K (P_chosen C_Game C_NoPerson C_NoWorld)) := by
  refine F.okN (k := 3) sc_Game_chosen (fun ds R Z ⟨a, b, c, e, _⟩ => by rw [e] <;> rfl) (fun f cdv A outer s H E hr => ?_)
  refine ⟨_,
    (pss_cons (ps_expr (pe_gX G_check_player hr.le (L2N.takes_of rfl rfl rfl rfl) (pa_cons (pv 0) (pa_cons (pv 1) pa_nil))))
    (pss_cons (ps_expr (pe_gX G_check_outcome hr.le (L2N.takes_of rfl rfl rfl rfl) (pa_cons (pv 0) (pa_cons (pv 2) pa_nil))))
    (pss_one (ps_ret (pe_op opMod (pe_op opDiv (pv 2) (ix K (fl K (pv 0)) (pv 1))) (ix K (fl K (pv 0)) (pv 1))))))), fun ds R Z p => ?_⟩
  obtain ⟨g, q, o, rfl, hf, p1, p2⟩ := p
  refine ws_to (ρ' := [.im (gameD C_Game g), .im (.int q), .im (.int o)]) rfl ?_
  walk_at "go"
  refine wq_dropX (ea_cons (ev_var rfl) (ea_cons (ev_var rfl) ea_nil)) (pr_check_player (fun hq _ => ?_) (fun hq => p2 _ (by rw [refuse, if_pos hq])))
  refine wq_dropX (ea_cons (ev_var rfl) (ea_cons (ev_var rfl) ea_nil)) (pr_check_outcome (fun ho _ => ?_) (fun ho => p2 _ (by rw [refuse, if_neg (fun z => z hq), if_pos ho])))
  have hqn : q.toNat < g.choices.length := by omega
  have eq : q = ((q.toNat : Nat) : Int) := by omega
  obtain ⟨s1, s2, c1, c2⟩ := fit_step hf hqn
  have a1 : atI ((stepsF (prodI g.choices) g.choices).map D.int) q = some (.int (stepN g.choices q.toNat)) := by rw [eq]; exact at_ints (by rw [stepsF_len]; exact hqn)
  have a2 : atI (g.choices.map D.int) q = some (.int (g.choices.getD q.toNat 0)) := by rw [eq]; exact at_ints hqn
  exact ws_ret (ev_op (ev_op (ev_var rfl) (ev_op (ev_fld (l := gameL g) (ns := gameNs) (j := 4) (d := intsD (stepsF (prodI g.choices) g.choices)) (ev_var rfl) (by decide) rfl gm.Game_c gm.Game__steps) (ev_var rfl) (rv_ixxL a1)) (rv_div (cdiv_small (by omega) (by omega)))) (ev_op (ev_fld (l := gameL g) (ns := gameNs) (j := 2) (d := intsD g.choices) (ev_var rfl) (by decide) rfl gm.Game_c gm.Game__choices) (ev_var rfl) (rv_ixxL a2)) (rv_mod (by omega))) (p1 (by rw [refuse, if_neg (fun z => z hq), if_neg (fun z => z ho)]))
def P_pay (C CP CW : Addr) : PrD := fun ds R Z => ∃ (g : GameM) (q o : Int), ds = [gameD C g, .int q, .int o] ∧ Fits g.choices g.pays ∧ (refuse CP CW g.choices q o = none → R (.im (.int ((g.pays.getD q.toNat []).getD o.toNat 0)))) ∧ ∀ z, refuse CP CW g.choices q o = some z → Z z
theorem ok_Game_pay (F : Dm K C_Game "pay" "Game.pay" s_Game_pay ["self", "person", "outcome"]) (gm : Gm K mg C_Game C_Fault C_BadGame C_NoPerson C_NoWorld C_NoChoice) (G_check_player : FnG P w K mg base (L2N.CX P w) 3 "check_player" ["game", "person"] (spD K (P_check_player C_Game C_NoPerson))) (G_check_outcome : FnG P w K mg base (L2N.CX P w) 3 "check_outcome" ["game", "outcome"] (spD K (P_check_outcome C_Game C_NoWorld))) : FnM P w K mg base (L2N.CX P w) 4 C_Game "pay" ["self", "person", "outcome"] (spD K (P_pay C_Game C_NoPerson C_NoWorld)) := by
  refine F.okN (k := 3) sc_Game_pay (fun ds R Z ⟨a, b, c, e, _⟩ => by rw [e] <;> rfl) (fun f cdv A outer s H E hr => ?_)
  refine ⟨_,
    (pss_cons (ps_expr (pe_gX G_check_player hr.le (L2N.takes_of rfl rfl rfl rfl) (pa_cons (pv 0) (pa_cons (pv 1) pa_nil))))
    (pss_cons (ps_expr (pe_gX G_check_outcome hr.le (L2N.takes_of rfl rfl rfl rfl) (pa_cons (pv 0) (pa_cons (pv 2) pa_nil))))
    (pss_one (ps_ret (ix K (ix K (fl K (pv 0)) (pv 1)) (pv 2)))))), fun ds R Z p => ?_⟩
  obtain ⟨g, q, o, rfl, hf, p1, p2⟩ := p
  refine ws_to (ρ' := [.im (gameD C_Game g), .im (.int q), .im (.int o)]) rfl ?_
  walk_at "go"
  refine wq_dropX (ea_cons (ev_var rfl) (ea_cons (ev_var rfl) ea_nil)) (pr_check_player (fun hq _ => ?_) (fun hq => p2 _ (by rw [refuse, if_pos hq])))
  refine wq_dropX (ea_cons (ev_var rfl) (ea_cons (ev_var rfl) ea_nil)) (pr_check_outcome (fun ho _ => ?_) (fun ho => p2 _ (by rw [refuse, if_neg (fun z => z hq), if_pos ho])))
  have hpl := hf.2.1
  have hqn : q.toNat < g.pays.length := by omega
  have hg : g.pays[q.toNat]? = some (g.pays.getD q.toNat []) := by rw [List.getD_eq_getElem?_getD, List.getElem?_eq_getElem hqn] <;> rfl
  have hrl := (hf.2.2 _ (List.mem_of_getElem? hg)).1
  have eq : q = ((q.toNat : Nat) : Int) := by omega
  have eo : o = ((o.toNat : Nat) : Int) := by omega
  have a1 : atI (g.pays.map intsD) q = some (intsD (g.pays.getD q.toNat [])) := by rw [eq]; exact at_map hg
  have a2 : atI ((g.pays.getD q.toNat []).map D.int) o = some (.int ((g.pays.getD q.toNat []).getD o.toNat 0)) := by rw [eo]; exact at_ints (by omega)
  exact ws_ret (ev_op (ev_op (ev_fld (l := gameL g) (ns := gameNs) (j := 3) (d := rowsD g.pays) (ev_var rfl) (by decide) rfl gm.Game_c gm.Game__pays) (ev_var rfl) (rv_ixxL a1)) (ev_var rfl) (rv_ixxL a2)) (p1 (by rw [refuse, if_neg (fun z => z hq), if_neg (fun z => z ho)]))
def refuse3 (cp cw cc : Addr) (cs : List Int) (q o c : Int) : Option Exn := match refuse cp cw cs q o with
  | some z => some z
  | none => if ¬ (0 ≤ c ∧ c < cs.getD q.toNat 0) then some (xNoChoice cc c) else none
def P_switched (C CP CW CC : Addr) : PrD := fun ds R Z => ∃ (g : GameM) (q o c : Int), ds = [gameD C g, .int q, .int o, .int c] ∧ FitC g.choices ∧ (refuse3 CP CW CC g.choices q o c = none → R (.im (.int (o + (c - chosenN g.choices q.toNat o) * stepN g.choices q.toNat)))) ∧ ∀ z, refuse3 CP CW CC g.choices q o c = some z → Z z
theorem refuse_ok {cp cw : Addr} {cs : List Int} {q o : Int} (h : refuse cp cw cs q o = none) : (0 ≤ q ∧ q < cs.length) ∧ 0 ≤ o ∧ o < prodI cs := by
  unfold refuse at h
  split at h
  · cases h
  · rename_i h1
    split at h
    · cases h
    · rename_i h2
      exact ⟨Decidable.not_not.mp h1, Decidable.not_not.mp h2⟩
theorem ok_Game_switched (F : Dm K C_Game "switched" "Game.switched" s_Game_switched ["self", "person", "outcome", "choice"]) (gm : Gm K mg C_Game C_Fault C_BadGame C_NoPerson C_NoWorld C_NoChoice) (G_Game_chosen : FnM P w K mg base (L2N.CX P w) 4 C_Game "chosen" ["self", "person", "outcome"] (spD K (P_chosen C_Game C_NoPerson C_NoWorld))) (G_check_choice : FnG P w K mg base (L2N.CX P w) 3 "check_choice" ["game", "person", "choice"] (spD K (P_check_choice C_Game C_NoChoice))) : FnM P w K mg base (L2N.CX P w) 5 C_Game "switched" ["self", "person", "outcome", "choice"] (spD K (P_switched C_Game C_NoPerson C_NoWorld C_NoChoice)) := by
  refine F.okN (k := 4) sc_Game_switched (fun ds R Z ⟨a, b, c, d, e, _⟩ => by rw [e] <;> rfl) (fun f cdv A outer s H E hr => ?_)
  refine ⟨_,
    (pss_cons (sv 4 sc_Game_switched.nd (pe_mX G_Game_chosen gm.Game_c hr.le (L2N.takes_of rfl rfl rfl rfl) (pv 0) (pa_cons (pv 1) (pa_cons (pv 2) pa_nil))))
    (pss_cons (ps_expr (pe_gX G_check_choice hr.le (L2N.takes_of rfl rfl rfl rfl) (pa_cons (pv 0) (pa_cons (pv 1) (pa_cons (pv 3) pa_nil)))))
    (pss_one (ps_ret (pe_op (kAdd K) (pv 2) (pe_op opMul (pe_op opSub (pv 3) (pv 4)) (ix K (fl K (pv 0)) (pv 1)))))))), fun ds R Z p => ?_⟩
  obtain ⟨g, q, o, c, rfl, hf, p1, p2⟩ := p
  refine ws_to (ρ' := [.im (gameD C_Game g), .im (.int q), .im (.int o), .im (.int c), .no]) rfl ?_
  walk_at "go"
  refine wq_asgX (eva_recv (l := gameL g) (ns := gameNs) (ev_var rfl) (by decide) (ea_cons (ev_var rfl) (ea_cons (ev_var rfl) ea_nil))) (by simp) ⟨g, q, o, rfl, hf, fun hn => ?_, fun z hz => ?_⟩
  · obtain ⟨hq, ho⟩ := refuse_ok hn
    show Ws K _ _ (List.set _ _ _) _
    dsimp only [List.set]
    have hqn : q.toNat < g.choices.length := by omega
    have eq : q = ((q.toNat : Nat) : Int) := by omega
    obtain ⟨s1, s2, c1, c2⟩ := fit_step hf hqn
    have a1 : atI ((stepsF (prodI g.choices) g.choices).map D.int) q = some (.int (stepN g.choices q.toNat)) := by rw [eq]; exact at_ints (by rw [stepsF_len]; exact hqn)
    refine wq_dropX (ea_cons (ev_var rfl) (ea_cons (ev_var rfl) (ea_cons (ev_var rfl) ea_nil))) ⟨g, q.toNat, c, by rw [← eq], hqn, fun hc _ => ?_, fun hc => p2 _ (by rw [refuse3, hn]; exact if_pos hc)⟩
    exact ws_ret (ev_op (ev_var rfl) (ev_op (ev_op (ev_var rfl) (ev_var rfl) rv_sub) (ev_op (ev_fld (l := gameL g) (ns := gameNs) (j := 4) (d := intsD (stepsF (prodI g.choices) g.choices)) (ev_var rfl) (by decide) rfl gm.Game_c gm.Game__steps) (ev_var rfl) (rv_ixxL a1)) (rv_mul (cmul_right (by omega)))) rv_add) (p1 (by rw [refuse3, hn]; exact if_neg (fun z => z hc)))
  · exact p2 _ (by rw [refuse3, hz])
def P_sights (C : Addr) : PrD := fun ds R Z => ∃ g : GameM, ds = [gameD C g] ∧ FitC g.choices ∧ R (.cl (.lst ((List.range g.choices.length).map fun q => intsD ((List.range (prodI g.choices).toNat).map fun o : Nat => chosenN g.choices q (o : Int)))))
theorem ok_Game_sights (F : Dm K C_Game "sights" "Game.sights" s_Game_sights ["self"]) (gm : Gm K mg C_Game C_Fault C_BadGame C_NoPerson C_NoWorld C_NoChoice) (G_Game_chosen : FnM P w K mg base (L2N.CX P w) 4 C_Game "chosen" ["self", "person", "outcome"] (spD K (P_chosen C_Game C_NoPerson C_NoWorld))) : FnM P w K mg base CX0 5 C_Game "sights" ["self"] (spD K (P_sights C_Game)) := by
  refine F.ok (k := 4) sc_Game_sights (fun ds R Z ⟨a, e, _⟩ => by rw [e] <;> rfl) (fun f cdv A outer s H E hr => ?_)
  refine ⟨_,
    (pss_one (ps_ret (pe_lc (own := [("person", 1)]) rfl sc_Game_sights.nd (pi_range1 (by rfl) gm.range (pa_cons (fl K (pv 0)) pa_nil)) (blkOk_by (N := N_Game_sights) (sc := defScope s_Game_sights) (by decide +kernel)) (fun _ _ _ _ _ => (gn 1 sc_Game_sights.nd)) (fun _ _ _ _ _ => pts_nil) (fun _ _ _ _ _ => (pe_lc (own := [("outcome", 2)]) rfl sc_Game_sights.nd (pi_range1 (by rfl) gm.range (pa_cons (fl K (pv 0)) pa_nil)) (blkOk_by (N := N_Game_sights) (by kernel_rfl)) (fun _ _ _ _ _ => (gn 2 sc_Game_sights.nd)) (fun _ _ _ _ _ => pts_nil) (fun _ _ _ _ _ => (pe_m G_Game_chosen gm.Game_c hr.le passN (pv 0) (pa_cons (pv 1) (pa_cons (pv 2) pa_nil))))))))), fun ds R Z p => ?_⟩
  obtain ⟨g, rfl, hf, p⟩ := p
  refine ws_to (ρ' := [.im (gameD C_Game g), .no, .no]) rfl ?_
  walk_at "go"
  have h1 := hf.1
  have h12 := hf.2.2
  by_cases hp : 0 ≤ prodI g.choices
  · have ep : prodI g.choices = (((prodI g.choices).toNat : Nat) : Int) := by omega
    refine ws_retC (lc_NC (n := g.choices.length) (fun q => intsD ((List.range (prodI g.choices).toNat).map fun o : Nat => chosenN g.choices q (o : Int))) (ea_cons (ev_fld (l := gameL g) (ns := gameNs) (j := 1) (ev_var rfl) (by decide) rfl gm.Game_c gm.Game_people) ea_nil) rfl (fun q hq => ?_) (by omega)) p
    dsimp only [List.set]
    refine ec_ow ((lc_N (n := (prodI g.choices).toNat) (fun o => D.int (chosenN g.choices q (o : Int))) (ea_cons ((ev_fld (l := gameL g) (ns := gameNs) (j := 0) (ev_var rfl) (by decide) rfl gm.Game_c gm.Game_outcomes).is (by rw [← ep])) ea_nil) rfl (fun o ho => ?_) (by omega)).is (by rw [List.map_map] <;> rfl)) (scal_ints _)
    dsimp only [List.set]
    refine ev_meth (l := gameL g) (ns := gameNs) (ev_var rfl) (by decide) (ea_cons (ev_var rfl) (ea_cons (ev_var rfl) ea_nil)) ⟨g, (q : Int), (o : Int), rfl, hf, fun _ => rfl, fun z hz => ?_⟩
    rw [refuse, if_neg (fun z => z ⟨by omega, by omega⟩), if_neg (fun z => z ⟨by omega, by omega⟩)] at hz
    cases hz
  · exfalso
    have : ∀ cs ∈ allC, 0 ≤ prodI cs := by decide +kernel
    exact hp (this _ (fit_all hf))
end
end FS
set_option Elab.async false
set_option linter.all false
set_option maxRecDepth 100000
set_option maxHeartbeats 4000000
set_option exponentiation.threshold 20000
namespace FS
open PySem PySem.Spec PyProof.Rows L2

local macro_rules | `(tactic| walk_at "side") => `(tactic| first | assumption | omega | decide)
local macro_rules | `(tactic| walk_at "hv") => `(tactic| (intro i hi; simp at hi; first | (subst hi; rfl) | (rcases hi with rfl | rfl <;> rfl) | (rcases hi with rfl | rfl | rfl <;> rfl)))
local macro_rules | `(tactic| walk_at "pr") => `(tactic| fail "no promise")
local macro_rules | `(tactic| walk_at "rv") => `(tactic| first
  | (with_reducible exact rv_add) | (with_reducible exact rv_sub) | (with_reducible exact rv_lt) | (with_reducible exact rv_le) | (with_reducible exact rv_gt) | (with_reducible exact rv_ge) | (with_reducible exact rv_eq) | (with_reducible exact rv_ne)
  | (with_reducible exact rv_is) | (with_reducible exact rv_isnot)
  | ((with_reducible apply rv_div); first | assumption | exact cdiv_small (by omega) (by omega))
  | ((with_reducible apply rv_mod); first | assumption | omega)
  | ((with_reducible apply rv_mul); first | assumption | exact cmul_left (by omega) | exact cmul_right (by omega))
  | ((with_reducible apply rv_mulW); assumption)
  | (with_reducible exact rv_p8) | (with_reducible exact rv_p18) | (with_reducible exact rv_p40) | (with_reducible exact rv_p20) | (with_reducible exact rv_p6) | (with_reducible exact rv_p7) | (with_reducible exact rv_p12) | (with_reducible exact rv_p25) | (with_reducible exact rv_p30) | (with_reducible exact rv_p39) | (with_reducible exact rv_p60)
  | ((with_reducible apply rv_ixxL); first | assumption | exact at_getD (by omega) (by omega) | exact at_nat rfl)
  | ((with_reducible apply rv_ixxT); first | assumption | exact at_getD (by omega) (by omega) | exact at_nat rfl)
  | ((with_reducible apply rv_ixxC); first | assumption)
  | (with_reducible exact ru_neg))
local macro_rules | `(tactic| walk_at "isi") => `(tactic| first | (with_reducible exact isi_non_int) | (with_reducible exact isi_non_bool) | (with_reducible exact isi_non_str) | (with_reducible exact isi_non_tuple) | (with_reducible exact isi_non_list) | (with_reducible exact isi_bl_int) | (with_reducible exact isi_bl_bool) | (with_reducible exact isi_bl_str) | (with_reducible exact isi_bl_tuple) | (with_reducible exact isi_bl_list) | (with_reducible exact isi_int_int) | (with_reducible exact isi_int_bool) | (with_reducible exact isi_int_str) | (with_reducible exact isi_int_tuple) | (with_reducible exact isi_int_list) | (with_reducible exact isi_str_int) | (with_reducible exact isi_str_bool) | (with_reducible exact isi_str_str) | (with_reducible exact isi_str_tuple) | (with_reducible exact isi_str_list) | (with_reducible exact isi_tup_int) | (with_reducible exact isi_tup_bool) | (with_reducible exact isi_tup_str) | (with_reducible exact isi_tup_tuple) | (with_reducible exact isi_tup_list) | (with_reducible exact isi_lst_int) | (with_reducible exact isi_lst_bool) | (with_reducible exact isi_lst_str) | (with_reducible exact isi_lst_tuple) | (with_reducible exact isi_lst_list))
local macro_rules | `(tactic| walk_at "rc") => `(tactic| first
  | walk_at "isi"
  | (with_reducible exact rc_len) | (with_reducible exact rc_lent) | (with_reducible exact rc_lenc) | (with_reducible exact rc_toint) | (with_reducible exact rc_absv) | (with_reducible exact rc_gcd)
  | ((with_reducible apply rc_lcm); assumption)
  | ((with_reducible apply rc_isi); (focus rfl); assumption)
  | (with_reducible exact rco_list) | (with_reducible exact rco_listT))
local macro_rules | `(tactic| walk_at "ev") => `(tactic| first
  | (with_reducible exact ev_int) | (with_reducible exact ev_bl) | (with_reducible exact ev_non) | (with_reducible exact ev_str) | (with_reducible exact ev_ty)
  | ((with_reducible apply ev_var); rfl)
  | ((with_reducible apply ev_lenOw); rfl)
  | ((with_reducible apply ev_op) <;> first | walk_at "ev" | walk_at "rv")
  | ((with_reducible apply ev_un) <;> first | walk_at "ev" | walk_at "rv")
  | ((with_reducible apply ev_cb) <;> first | walk_at "ev" | walk_at "rc")
  | ((with_reducible apply ev_call) <;> first | walk_at "ev" | walk_at "pr")
  | ((with_reducible apply ev_tup) <;> first | walk_at "ev" | (simp; done))
  | (with_reducible exact ea_nil)
  | ((with_reducible apply ea_cons) <;> walk_at "ev")
  | ((with_reducible apply et_test); walk_at "ev")
  | ((with_reducible apply et_B); walk_at "ev")
  | ((with_reducible apply et_not); walk_at "ev")
  | ((with_reducible apply et_or); (walk_at "ev"); intro _; walk_at "ev")
  | ((with_reducible apply et_and); (walk_at "ev"); intro _; walk_at "ev")
  | ((with_reducible apply ev_orV); (walk_at "ev"); intro _; walk_at "ev")
  | ((with_reducible apply ev_andV); (walk_at "ev"); intro _; walk_at "ev")
  | ((with_reducible apply ev_notV); walk_at "ev")
  | (with_reducible exact et_yes)
  | ((with_reducible apply evo_lst) <;> first | walk_at "ev" | (simp; done))
  | ((with_reducible apply ev_opO) <;> first | walk_at "ev" | ((with_reducible apply rvo_add); simp; omega))
  | ((with_reducible apply ev_cbO) <;> first | walk_at "ev" | walk_at "rc")
  | ((with_reducible apply ev_callO) <;> first | walk_at "ev" | walk_at "pr")
  | ((with_reducible apply ec_call) <;> first | walk_at "ev" | walk_at "pr")
  | ((with_reducible apply ec_tup) <;> first | walk_at "ev" | (simp; done))
  | ((with_reducible apply ec_lst) <;> first | walk_at "ev" | (simp; done))
  | (with_reducible exact eca_nil)
  | ((with_reducible apply eca_cons) <;> walk_at "ev")
  | ((with_reducible apply ec_sc); (walk_at "ev"); rfl)
  | ((with_reducible apply ec_ow); (walk_at "ev"); first | assumption | (intro d hd; simp at hd; done))
  | ((with_reducible apply ec_fz); walk_at "ev")
  | ((with_reducible apply ev_fz); walk_at "ev"))

local macro_rules | `(tactic| walk_at "im") => `(tactic| ((with_reducible apply wq_asg); walk_at "ev"; (try dsimp only [List.set, Int.reduceToNat])))
local macro_rules | `(tactic| walk_at "ow") => `(tactic| ((with_reducible apply wq_asgO); walk_at "ev"; (focus (first | decide | (simp; done))); (try dsimp only [List.set, Int.reduceToNat])))
local macro_rules | `(tactic| walk_at "cl") => `(tactic| ((with_reducible apply wq_asgC); walk_at "ev"; (focus (first | decide | (simp; done))); (try dsimp only [List.set, Int.reduceToNat])))
local macro_rules | `(tactic| walk_at "if") => `(tactic| ((first | (with_reducible apply wq_when) | (with_reducible apply wq_if) | (with_reducible apply ws_if)); walk_at "ev"; (try dsimp only [Int.reduceToNat])))
local macro_rules | `(tactic| walk_at "ret") => `(tactic| ((with_reducible apply ws_ret); walk_at "ev"))
local macro_rules | `(tactic| walk_at "go") => `(tactic| (try dsimp only [cxOf, L2.Cx.nox, L2.Cx.wish, L2.Cx.blk]))
local macro_rules | `(tactic| walk_at "ints") => `(tactic| (refine ev_fz (evo_lst ?_ (by decide)); repeat (first | exact ea_nil | refine ea_cons ev_int ?_)))

section
variable {P : Program} {w : World} {K : PySem.W.Frag} {mg : Str → Option Value} {base : Heap} {C_Game C_Fault C_BadGame C_NoPerson C_NoWorld C_NoChoice : Addr}
/-! ### the script's cells (the script, or a piece of it) -/
def ScrD (s : D) (ns : List Int) : Prop := s = .scr ns ∨ s = intsD ns
def P_cell : PrD := fun ds R _ => ∃ s ns k, ds = [s, .int k] ∧ ScrD s ns ∧ 0 ≤ k ∧ R (.im (.int (cell ns k)))
theorem ok_cell (F : Df K mg "_law_cell" s_law_cell ["script", "k"]) (gm : Gm K mg C_Game C_Fault C_BadGame C_NoPerson C_NoWorld C_NoChoice) : FnG P w K mg base CX0 1 "_law_cell" ["script", "k"] (spD K P_cell) := by
  refine F.ok (k := 0) sc_law_cell (fun ds R Z ⟨s, ns, k, e, _⟩ => by rw [e] <;> rfl) (fun f cdv A outer s H E hr => ?_)
  refine ⟨_,
    (pss_cons (ps_if (pt_cmpR opLt (pv 1) (cb (kLen K) gm.len (pa_cons (pv 0) pa_nil)) (nomark _)) (pss_one (ps_ret (ix K (pv 0) (pv 1)))) pss_nil)
    (pss_one (ps_ret (pe_op (kAdd K) (pe_op opMul pe_int (pv 1)) pe_int)))), fun ds R Z p => ?_⟩
  obtain ⟨s, ns, k, rfl, hs, h0, p⟩ := p
  refine ws_to (ρ' := [.im s, .im (.int k)]) rfl ?_
  walk_at "go"
  have hlen : EvD K (tCB (rLenA K) (tCons (tVar 0) tNil)) [.im s, .im (.int k)] (.int (ns.length : Int)) := by
    rcases hs with rfl | rfl
    · exact ev_cb (ea_cons (ev_var rfl) ea_nil) rc_lenc
    · exact (ev_cb (ea_cons (ev_var rfl) ea_nil) rc_len).is (by rw [List.length_map])
  refine wq_when (et_test (ev_op (ev_var rfl) hlen rv_lt)) (fun hb => ?_) (fun hb => ?_)
  · have hb : k < ns.length := of_decide_eq_true hb
    have hi := atI_getD h0 hb
    have hi2 : atI (ns.map D.int) k = some (.int (ns.getD k.toNat 0)) := at_getD h0 hb
    unfold cell at p
    rw [if_pos hb] at p
    rcases hs with rfl | rfl
    · exact ws_ret (ev_op (ev_var rfl) (ev_var rfl) (rv_ixxC hi)) p
    · exact ws_ret (ev_op (ev_var rfl) (ev_var rfl) (rv_ixxL hi2)) p
  · have hb : ¬ k < ns.length := of_decide_eq_false hb
    unfold cell at p
    rw [if_neg hb] at p
    walk_at "ret"
    exact p
theorem pr_cell {s : D} {ns : List Int} {k : Int} (hs : ScrD s ns) (h : 0 ≤ k) : P_cell [s, .int k] (fun s => s = .im (.int (cell ns k))) (fun _ => False) := ⟨s, ns, k, rfl, hs, h, rfl⟩
end

section
variable {P : Program} {w : World} {K : PySem.W.Frag} {mg : Str → Option Value} {base : Heap} {C_Game C_Fault C_BadGame C_NoPerson C_NoWorld C_NoChoice : Addr}
/-! ### draws -/
def P_draws : PrD := fun ds R _ => ∃ c sizes, ds = [.int c, .lst (sizes.map .int)] ∧ (∀ s ∈ sizes, 0 < s ∧ s < 2 ^ 200) ∧ sizes.length ≤ 1000 ∧ R (.cl (.lst ((draws c sizes).map .int)))

theorem ok_draws (F : Df K mg "_law_draws" s_law_draws ["cell", "sizes"]) (gm : Gm K mg C_Game C_Fault C_BadGame C_NoPerson C_NoWorld C_NoChoice) : FnG P w K mg base CX0 1 "_law_draws" ["cell", "sizes"] (spD K P_draws) := by
  refine F.ok (k := 0) sc_law_draws (fun ds R Z ⟨c, sizes, e, _⟩ => by rw [e] <;> rfl) (fun f cdv A outer s H E hr => ?_)
  refine ⟨_,
    (pss_cons (sv 2 sc_law_draws.nd (pe_lst pa_nil))
    (pss_cons (sv 3 sc_law_draws.nd (ct cInt gm.int (pa_cons (pv 0) pa_nil)))
    (pss_cons (ps_if (pt_cmpR opGe (pv 3) (pe_op opPow pe_int pe_int) (nomark _)) (pss_cons (sv 3 sc_law_draws.nd (pe_op opSub (pv 3) (pe_op opPow pe_int pe_int))) (pss_cons (ps_for PassesOwn.never rfl (pl K (pv 1)) (gn 4 sc_law_draws.nd) (pss_cons (ps_expr (ml_append K (pv 2) (pa_cons (pe_op opMod (ct cInt gm.int (pa_cons (pv 3) pa_nil)) (pv 4)) pa_nil))) (pss_one (sv 3 sc_law_draws.nd (pe_op opDiv (pv 3) (pv 4)))))) (pss_one (ps_ret (pv 2))))) pss_nil)
    (pss_cons (sv 5 sc_law_draws.nd (pe_op opMod (ct cInt gm.int (pa_cons (pv 3) pa_nil)) pe_int))
    (pss_cons (ps_for PassesOwn.never rfl (pi_range1 (by rfl) gm.range (pa_cons (cb (kLen K) gm.len (pa_cons (pv 1) pa_nil)) pa_nil)) (gn 6 sc_law_draws.nd) (pss_cons (sv 5 sc_law_draws.nd (pe_op opMod (ct cInt gm.int (pa_cons (pe_op (kAdd K) (pe_op (kAdd K) (pe_op opMul (pv 5) pe_int) (pe_op opMul pe_int (pv 6))) pe_int) pa_nil)) pe_int)) (pss_cons (sv 7 sc_law_draws.nd (pe_op opMod (ct cInt gm.int (pa_cons (pe_op (kAdd K) (pe_op (kAdd K) (pe_op opMul (pv 5) pe_int) (pe_op opMul pe_int (pv 6))) pe_int) pa_nil)) pe_int)) (pss_one (ps_expr (ml_append K (pv 2) (pa_cons (pe_op opMod (ct cInt gm.int (pa_cons (pe_op opDiv (pv 7) pe_int) pa_nil)) (ix K (pv 1) (pv 6))) pa_nil)))))))
    (pss_one (ps_ret (pv 2)))))))), fun ds R Z p => ?_⟩
  obtain ⟨c, sizes, rfl, hsz, hl, p⟩ := p
  refine ws_to (ρ' := [.im (.int c), .im (.lst (sizes.map .int)), .no, .no, .no, .no, .no, .no]) rfl ?_
  walk_at "go"
  walk_at "ow"
  walk_at "im"
  walk_at "if" <;> intro hb
  · have hb : (1000000000000000000 : Int) ≤ c := of_decide_eq_true hb
    rw [draws, if_pos hb] at p
    walk_at "im"
    refine wq_for (src_list (ev_var rfl)) (fun i ρ' => ∃ told rest s4, ρ' = [.im (.int c), .im (.lst (sizes.map .int)), .ow (told.map .int), .im (.int rest), s4, .no, .no, .no] ∧ told.length = i ∧ told ++ drawsBig rest (sizes.drop i) = drawsBig (c - 1000000000000000000) sizes) ⟨[], _, .no, rfl, rfl, rfl⟩ ?_ ?_
    · rintro i d ρ' hd ⟨told, rest, s4, rfl, hi, e⟩
      obtain ⟨x, hx, rfl⟩ := map_get hd
      have hb2 := hsz x (List.mem_of_getElem? hx)
      have hi2 := (List.getElem?_eq_some_iff.mp hx).1
      refine ⟨_, gd_name, ?_⟩
      dsimp only [setD, List.set]
      have hx0 : 0 < x := hb2.1
      have hdv : ∀ z, CDivW z x := fun z => cdiv_200 hb2.1 hb2.2
      refine wq_app rfl (d := .int (rest % x)) (by walk_at "ev") (by rw [List.length_map]; omega) ?_
      dsimp only [List.set]
      refine ws_asg (d := .int (rest / x)) (ev_op (ev_var rfl) (ev_var rfl) (rv_div (hdv _))) ?_
      refine ⟨told ++ [rest % x], rest / x, .im (.int x), ?_, by rw [List.length_append, hi]; rfl, ?_⟩
      · rw [List.map_append]; rfl
      · rw [← e, drop_get hx, drawsBig, List.append_assoc]; rfl
    · rintro ρ' ⟨told, rest, s4, rfl, hi, e⟩
      rw [List.length_map, List.drop_length, drawsBig, List.append_nil] at e
      refine ws_owcl (i := 2) rfl (scal_ints _) ?_
      refine ws_retVc rfl ?_
      rw [e]
      exact p
  · have hb : ¬ (1000000000000000000 : Int) ≤ c := of_decide_eq_false hb
    rw [draws, if_neg hb] at p
    walk_at "im"
    refine wq_for (src_rng1 (n := ((sizes.map D.int).length : Int)) (by walk_at "ev") (by rw [List.length_map]; omega)) (fun i ρ' => ∃ told seed s6 s7, ρ' = [.im (.int c), .im (.lst (sizes.map .int)), .ow (told.map .int), .im (.int c), .no, .im (.int seed), s6, s7] ∧ told.length = i ∧ told ++ drawsLow seed i (sizes.drop i) = drawsLow (c % 2147483647) 0 sizes) ⟨[], _, .no, .no, rfl, rfl, rfl⟩ ?_ ?_
    · rintro i d ρ' hd ⟨told, seed, s6, s7, rfl, hi, e⟩
      obtain ⟨hi2, rfl⟩ := rng_get hd
      have hi3 : i < sizes.length := by rw [List.length_map] at hi2; omega
      obtain ⟨x, hx⟩ := get_some hi3
      have hb2 := hsz x (List.mem_of_getElem? hx)
      have hx0 : 0 < x := hb2.1
      refine ⟨_, gd_name, ?_⟩
      dsimp only [setD, List.set]
      rw [Int.zero_add]
      have hxi : atI (sizes.map D.int) (i : Int) = some (.int x) := at_map hx
      walk_at "im"
      walk_at "im"
      refine ws_app rfl (d := .int ((((seed * 48271 + 11 * i + 7) % 2147483647) * 69621 + 3 * i + 1) % 2147483629 / 7 % x)) (by walk_at "ev") (by rw [List.length_map]; omega) ?_
      refine ⟨told ++ [(((seed * 48271 + 11 * i + 7) % 2147483647) * 69621 + 3 * i + 1) % 2147483629 / 7 % x], (seed * 48271 + 11 * i + 7) % 2147483647, .im (.int i), .im (.int ((((seed * 48271 + 11 * i + 7) % 2147483647) * 69621 + 3 * i + 1) % 2147483629)), ?_, by rw [List.length_append, hi]; rfl, ?_⟩
      · rw [List.map_append]; rfl
      · rw [← e, drop_get hx, drawsLow, List.append_assoc]
        rfl
    · rintro ρ' ⟨told, seed, s6, s7, rfl, hi, e⟩
      rw [rng_len, List.length_map, Int.toNat_natCast, List.drop_length, drawsLow, List.append_nil] at e
      refine ws_owcl (i := 2) rfl (scal_ints _) ?_
      refine ws_retVc rfl ?_
      rw [e]
      exact p
theorem pr_draws {c : Int} {sizes : List Int} (h : ∀ s ∈ sizes, 0 < s ∧ s < 2 ^ 200) (hl : sizes.length ≤ 1000) : P_draws [.int c, .lst (sizes.map .int)] (fun s => s = .cl (.lst ((draws c sizes).map .int))) (fun _ => False) := ⟨c, sizes, rfl, h, hl, rfl⟩
end
end FS
set_option Elab.async false
set_option linter.all false
set_option maxRecDepth 100000
set_option maxHeartbeats 4000000
set_option exponentiation.threshold 20000
namespace FS
open PySem PySem.Spec PyProof.Rows L2

local macro_rules | `(tactic| walk_at "side") => `(tactic| first | assumption | omega | decide)
local macro_rules | `(tactic| walk_at "hv") => `(tactic| (intro i hi; simp at hi; first | (subst hi; rfl) | (rcases hi with rfl | rfl <;> rfl) | (rcases hi with rfl | rfl | rfl <;> rfl)))
local macro_rules | `(tactic| walk_at "pr") => `(tactic| fail "no promise")
local macro_rules | `(tactic| walk_at "rv") => `(tactic| first
  | (with_reducible exact rv_add) | (with_reducible exact rv_sub) | (with_reducible exact rv_lt) | (with_reducible exact rv_le) | (with_reducible exact rv_gt) | (with_reducible exact rv_ge) | (with_reducible exact rv_eq) | (with_reducible exact rv_ne)
  | (with_reducible exact rv_is) | (with_reducible exact rv_isnot)
  | ((with_reducible apply rv_div); first | assumption | exact cdiv_small (by omega) (by omega))
  | ((with_reducible apply rv_mod); first | assumption | omega)
  | ((with_reducible apply rv_mul); first | assumption | exact cmul_left (by omega) | exact cmul_right (by omega))
  | ((with_reducible apply rv_mulW); assumption)
  | (with_reducible exact rv_p8) | (with_reducible exact rv_p18) | (with_reducible exact rv_p40) | (with_reducible exact rv_p20) | (with_reducible exact rv_p6) | (with_reducible exact rv_p7) | (with_reducible exact rv_p12) | (with_reducible exact rv_p25) | (with_reducible exact rv_p30) | (with_reducible exact rv_p39) | (with_reducible exact rv_p60)
  | ((with_reducible apply rv_ixxL); first | assumption | exact at_getD (by omega) (by omega) | exact at_nat rfl)
  | ((with_reducible apply rv_ixxT); first | assumption | exact at_getD (by omega) (by omega) | exact at_nat rfl)
  | ((with_reducible apply rv_ixxC); first | assumption)
  | (with_reducible exact ru_neg))
local macro_rules | `(tactic| walk_at "isi") => `(tactic| first | (with_reducible exact isi_non_int) | (with_reducible exact isi_non_bool) | (with_reducible exact isi_non_str) | (with_reducible exact isi_non_tuple) | (with_reducible exact isi_non_list) | (with_reducible exact isi_bl_int) | (with_reducible exact isi_bl_bool) | (with_reducible exact isi_bl_str) | (with_reducible exact isi_bl_tuple) | (with_reducible exact isi_bl_list) | (with_reducible exact isi_int_int) | (with_reducible exact isi_int_bool) | (with_reducible exact isi_int_str) | (with_reducible exact isi_int_tuple) | (with_reducible exact isi_int_list) | (with_reducible exact isi_str_int) | (with_reducible exact isi_str_bool) | (with_reducible exact isi_str_str) | (with_reducible exact isi_str_tuple) | (with_reducible exact isi_str_list) | (with_reducible exact isi_tup_int) | (with_reducible exact isi_tup_bool) | (with_reducible exact isi_tup_str) | (with_reducible exact isi_tup_tuple) | (with_reducible exact isi_tup_list) | (with_reducible exact isi_lst_int) | (with_reducible exact isi_lst_bool) | (with_reducible exact isi_lst_str) | (with_reducible exact isi_lst_tuple) | (with_reducible exact isi_lst_list))
local macro_rules | `(tactic| walk_at "rc") => `(tactic| first
  | walk_at "isi"
  | (with_reducible exact rc_len) | (with_reducible exact rc_lent) | (with_reducible exact rc_lenc) | (with_reducible exact rc_toint) | (with_reducible exact rc_absv) | (with_reducible exact rc_gcd)
  | ((with_reducible apply rc_lcm); assumption)
  | ((with_reducible apply rc_isi); (focus rfl); assumption)
  | (with_reducible exact rco_list) | (with_reducible exact rco_listT))
local macro_rules | `(tactic| walk_at "ev") => `(tactic| first
  | (with_reducible exact ev_int) | (with_reducible exact ev_bl) | (with_reducible exact ev_non) | (with_reducible exact ev_str) | (with_reducible exact ev_ty)
  | ((with_reducible apply ev_var); rfl)
  | ((with_reducible apply ev_lenOw); rfl)
  | ((with_reducible apply ev_op) <;> first | walk_at "ev" | walk_at "rv")
  | ((with_reducible apply ev_un) <;> first | walk_at "ev" | walk_at "rv")
  | ((with_reducible apply ev_cb) <;> first | walk_at "ev" | walk_at "rc")
  | ((with_reducible apply ev_call) <;> first | walk_at "ev" | walk_at "pr")
  | ((with_reducible apply ev_tup) <;> first | walk_at "ev" | (simp; done))
  | (with_reducible exact ea_nil)
  | ((with_reducible apply ea_cons) <;> walk_at "ev")
  | ((with_reducible apply et_test); walk_at "ev")
  | ((with_reducible apply et_B); walk_at "ev")
  | ((with_reducible apply et_not); walk_at "ev")
  | ((with_reducible apply et_or); (walk_at "ev"); intro _; walk_at "ev")
  | ((with_reducible apply et_and); (walk_at "ev"); intro _; walk_at "ev")
  | ((with_reducible apply ev_orV); (walk_at "ev"); intro _; walk_at "ev")
  | ((with_reducible apply ev_andV); (walk_at "ev"); intro _; walk_at "ev")
  | ((with_reducible apply ev_notV); walk_at "ev")
  | (with_reducible exact et_yes)
  | ((with_reducible apply evo_lst) <;> first | walk_at "ev" | (simp; done))
  | ((with_reducible apply ev_opO) <;> first | walk_at "ev" | ((with_reducible apply rvo_add); simp; omega))
  | ((with_reducible apply ev_cbO) <;> first | walk_at "ev" | walk_at "rc")
  | ((with_reducible apply ev_callO) <;> first | walk_at "ev" | walk_at "pr")
  | ((with_reducible apply ec_call) <;> first | walk_at "ev" | walk_at "pr")
  | ((with_reducible apply ec_tup) <;> first | walk_at "ev" | (simp; done))
  | ((with_reducible apply ec_lst) <;> first | walk_at "ev" | (simp; done))
  | (with_reducible exact eca_nil)
  | ((with_reducible apply eca_cons) <;> walk_at "ev")
  | ((with_reducible apply ec_sc); (walk_at "ev"); rfl)
  | ((with_reducible apply ec_ow); (walk_at "ev"); first | assumption | (intro d hd; simp at hd; done))
  | ((with_reducible apply ec_fz); walk_at "ev")
  | ((with_reducible apply ev_fz); walk_at "ev"))

local macro_rules | `(tactic| walk_at "im") => `(tactic| ((with_reducible apply wq_asg); walk_at "ev"; (try dsimp only [List.set, Int.reduceToNat])))
local macro_rules | `(tactic| walk_at "ow") => `(tactic| ((with_reducible apply wq_asgO); walk_at "ev"; (focus (first | decide | (simp; done))); (try dsimp only [List.set, Int.reduceToNat])))
local macro_rules | `(tactic| walk_at "cl") => `(tactic| ((with_reducible apply wq_asgC); walk_at "ev"; (focus (first | decide | (simp; done))); (try dsimp only [List.set, Int.reduceToNat])))
local macro_rules | `(tactic| walk_at "if") => `(tactic| ((first | (with_reducible apply wq_when) | (with_reducible apply wq_if) | (with_reducible apply ws_if)); walk_at "ev"; (try dsimp only [Int.reduceToNat])))
local macro_rules | `(tactic| walk_at "ret") => `(tactic| ((with_reducible apply ws_ret); walk_at "ev"))
local macro_rules | `(tactic| walk_at "go") => `(tactic| (try dsimp only [cxOf, L2.Cx.nox, L2.Cx.wish, L2.Cx.blk]))
local macro_rules | `(tactic| walk_at "ints") => `(tactic| (refine ev_fz (evo_lst ?_ (by decide)); repeat (first | exact ea_nil | refine ea_cons ev_int ?_)))

section
variable {P : Program} {w : World} {K : PySem.W.Frag} {mg : Str → Option Value} {base : Heap} {C_Game C_Fault C_BadGame C_NoPerson C_NoWorld C_NoChoice : Addr}
/-! ### _law_same, of equal data -/
def P_same (n : Nat) : PrD := fun ds R _ => ∃ y, ds = [y, y] ∧ D.pl n y = true ∧ R (.im (.bl true))
def P_same' : Nat → PrD
  | 0 => fun _ _ _ => False
  | n + 1 => P_same n
theorem pr_same {n : Nat} {y : D} (h : D.pl n y = true) : P_same n [y, y] (fun s => s = .im (.bl true)) (fun _ => False) := ⟨y, rfl, h, rfl⟩
theorem ok_same1 (n : Nat) (F : Df K mg "_law_same" s_law_same ["actual", "due"]) (gm : Gm K mg C_Game C_Fault C_BadGame C_NoPerson C_NoWorld C_NoChoice) (G_law_same : FnG P w K mg base CX0 n "_law_same" ["actual", "due"] (spD K (P_same' n))) : FnG P w K mg base CX0 (n + 1) "_law_same" ["actual", "due"] (spD K (P_same' (n + 1))) := by
  refine F.ok (k := n) sc_law_same (fun ds R Z ⟨a, e, _⟩ => by rw [e] <;> rfl) (fun f cdv A outer s H E hr => ?_)
  refine ⟨_,
    (pss_cons (ps_if (pt_cmpR opIsN (pv 1) pe_non (nomark _)) (pss_one (ps_ret (pe_cmpR opIsN (pv 0) pe_non (nomark _)))) pss_nil)
    (pss_cons (ps_if (pt_val (cb (kIsi K) gm.isinstance (pa_cons (pv 1) (pa_cons (pe_bltn (v := .ty "int") (by rfl) gm.int (by decide +kernel) rfl) pa_nil)))) (pss_one (ps_ret (pe_and (cb (kIsi K) gm.isinstance (pa_cons (pv 0) (pa_cons (pe_bltn (v := .ty "int") (by rfl) gm.int (by decide +kernel) rfl) pa_nil))) (pe_and (pe_not (cb (kIsi K) gm.isinstance (pa_cons (pv 0) (pa_cons (pe_bltn (v := .ty "bool") (by rfl) gm.bool (by decide +kernel) rfl) pa_nil)))) (pe_one (pe_cmpR (kEq K hr.units) (pv 0) (pv 1) (nomark _))))))) pss_nil)
    (pss_cons (ps_if (pt_val (cb (kIsi K) gm.isinstance (pa_cons (pv 1) (pa_cons (pe_bltn (v := .ty "tuple") (by rfl) gm.tuple (by decide +kernel) rfl) pa_nil)))) (pss_one (ps_if (PW.pt (pw_or (pt_not (pt_val (cb (kIsi K) gm.isinstance (pa_cons (pv 0) (pa_cons (pe_bltn (v := .ty "tuple") (by rfl) gm.tuple (by decide +kernel) rfl) pa_nil))))) (pw_or1 (pt_cmpR (kNe K hr.units) (cb (kLen K) gm.len (pa_cons (pv 0) pa_nil)) (cb (kLen K) gm.len (pa_cons (pv 1) pa_nil)) (nomark _))))) (pss_one (ps_ret pe_bl)) pss_nil)) (pss_one (ps_if (PW.pt (pw_or (pt_not (pt_val (cb (kIsi K) gm.isinstance (pa_cons (pv 0) (pa_cons (pe_bltn (v := .ty "list") (by rfl) gm.list (by decide +kernel) rfl) pa_nil))))) (pw_or1 (pt_cmpR (kNe K hr.units) (cb (kLen K) gm.len (pa_cons (pv 0) pa_nil)) (cb (kLen K) gm.len (pa_cons (pv 1) pa_nil)) (nomark _))))) (pss_one (ps_ret pe_bl)) pss_nil)))
    (pss_cons (ps_for PassesOwn.never rfl (pi_range1 (by rfl) gm.range (pa_cons (cb (kLen K) gm.len (pa_cons (pv 1) pa_nil)) pa_nil)) (gn 2 sc_law_same.nd) (pss_one (ps_if (pt_not (pt_val (pe_g G_law_same hr.le pass0 (pa_cons (ix K (pv 0) (pv 2)) (pa_cons (ix K (pv 1) (pv 2)) pa_nil))))) (pss_one (ps_ret pe_bl)) pss_nil)))
    (pss_one (ps_ret pe_bl)))))), fun ds R Z p => ?_⟩
  obtain ⟨y, rfl, hy, p⟩ := p
  refine ws_to (ρ' := [.im y, .im y, .no]) rfl ?_
  walk_at "go"
  cases y with
  | non =>
    refine wq_ifT (by walk_at "ev") (by rfl) ?_
    walk_at "ret"
    exact p
  | int i =>
    refine wq_noif (by walk_at "ev") (by rfl) ?_
    refine wq_ifT (by walk_at "ev") (by rfl) ?_
    refine ws_ret (d := .bl true) ((by walk_at "ev" : EvD K _ _ (.bl (true && (!false && decide (i = i))))).is (by simp)) ?_
    exact p
  | tup l =>
    refine wq_noif (by walk_at "ev") (by rfl) ?_
    refine wq_noif (by walk_at "ev") (by rfl) ?_
    cases n with
    | zero => exact absurd hy (by simp [D.pl])
    | succ n =>
    have hy : D.plL n l = true ∧ l.length ≤ 100000 := by simpa [D.pl] using hy
    refine wq_ifT (by walk_at "ev") (by rfl) ?_
    refine ws_ifF (by walk_at "ev") (by simp) ?_
    refine ws_next ?_
    refine wq_for (src_rng1 (n := (l.length : Int)) (by walk_at "ev") (by omega)) (fun i ρ' => ∃ s2, ρ' = [.im (.tup l), .im (.tup l), s2]) ⟨.no, rfl⟩ ?_ ?_
    · rintro i d ρ' hd ⟨s2, rfl⟩
      obtain ⟨hi, rfl⟩ := rng_get hd
      refine ⟨_, gd_name, ?_⟩
      dsimp only [setD, List.set]
      have hi : i < l.length := by omega
      have e0 : (0 : Int) + (i : Int) = (i : Int) := Int.zero_add _
      have ha : atI l (0 + (i : Int)) = some l[i] := by rw [e0]; exact at_nat (List.getElem?_eq_getElem hi)
      refine ws_ifF (et_not (et_B (ev_call (ea_cons (ev_op (ev_var rfl) (ev_var rfl) (rv_ixxT ha)) (ea_cons (ev_op (ev_var rfl) (ev_var rfl) (rv_ixxT ha)) ea_nil)) (pr_same (D.plL_get hy.1 (List.getElem?_eq_getElem hi)))))) rfl ?_
      exact ws_next ⟨_, rfl⟩
    · rintro ρ' ⟨s2, rfl⟩
      exact ws_ret ev_bl p
  | lst l =>
    refine wq_noif (by walk_at "ev") (by rfl) ?_
    refine wq_noif (by walk_at "ev") (by rfl) ?_
    cases n with
    | zero => exact absurd hy (by simp [D.pl])
    | succ n =>
    have hy : D.plL n l = true ∧ l.length ≤ 100000 := by simpa [D.pl] using hy
    refine wq_ifF (by walk_at "ev") (by rfl) ?_
    refine ws_ifF (by walk_at "ev") (by simp) ?_
    refine ws_next ?_
    refine wq_for (src_rng1 (n := (l.length : Int)) (by walk_at "ev") (by omega)) (fun i ρ' => ∃ s2, ρ' = [.im (.lst l), .im (.lst l), s2]) ⟨.no, rfl⟩ ?_ ?_
    · rintro i d ρ' hd ⟨s2, rfl⟩
      obtain ⟨hi, rfl⟩ := rng_get hd
      refine ⟨_, gd_name, ?_⟩
      dsimp only [setD, List.set]
      have hi : i < l.length := by omega
      have e0 : (0 : Int) + (i : Int) = (i : Int) := Int.zero_add _
      have ha : atI l (0 + (i : Int)) = some l[i] := by rw [e0]; exact at_nat (List.getElem?_eq_getElem hi)
      refine ws_ifF (et_not (et_B (ev_call (ea_cons (ev_op (ev_var rfl) (ev_var rfl) (rv_ixxL ha)) (ea_cons (ev_op (ev_var rfl) (ev_var rfl) (rv_ixxL ha)) ea_nil)) (pr_same (D.plL_get hy.1 (List.getElem?_eq_getElem hi)))))) rfl ?_
      exact ws_next ⟨_, rfl⟩
    · rintro ρ' ⟨s2, rfl⟩
      exact ws_ret ev_bl p
  | bl b => cases n <;> cases hy
  | str b => cases n <;> cases hy
  | scr b => cases n <;> cases hy
  | ty b => cases n <;> cases hy
  | obj b => cases n <;> cases hy
  | ins a b c => cases n <;> cases hy
  | exc a b c d => cases n <;> cases hy
  | dic a b => cases n <;> cases hy
  | slf a b c d => cases n <;> cases hy
  | kn a => cases n <;> cases hy
theorem ok_same (F : Df K mg "_law_same" s_law_same ["actual", "due"]) (gm : Gm K mg C_Game C_Fault C_BadGame C_NoPerson C_NoWorld C_NoChoice) : ∀ n, FnG P w K mg base CX0 n "_law_same" ["actual", "due"] (spD K (P_same' n))
  | 0 => F.none
  | n + 1 => ok_same1 n F gm (ok_same F gm n)
end
end FS
set_option Elab.async false
set_option linter.all false
set_option maxRecDepth 100000
set_option maxHeartbeats 4000000
set_option exponentiation.threshold 20000
namespace FS
open PySem PySem.Spec PyProof.Rows L2

local macro_rules | `(tactic| walk_at "side") => `(tactic| first | assumption | omega | decide)
local macro_rules | `(tactic| walk_at "hv") => `(tactic| (intro i hi; simp at hi; first | (subst hi; rfl) | (rcases hi with rfl | rfl <;> rfl) | (rcases hi with rfl | rfl | rfl <;> rfl)))
local macro_rules | `(tactic| walk_at "pr") => `(tactic| fail "no promise")
local macro_rules | `(tactic| walk_at "rv") => `(tactic| first
  | (with_reducible exact rv_add) | (with_reducible exact rv_sub) | (with_reducible exact rv_lt) | (with_reducible exact rv_le) | (with_reducible exact rv_gt) | (with_reducible exact rv_ge) | (with_reducible exact rv_eq) | (with_reducible exact rv_ne)
  | (with_reducible exact rv_is) | (with_reducible exact rv_isnot)
  | ((with_reducible apply rv_div); first | assumption | exact cdiv_small (by omega) (by omega))
  | ((with_reducible apply rv_mod); first | assumption | omega)
  | ((with_reducible apply rv_mul); first | assumption | exact cmul_left (by omega) | exact cmul_right (by omega))
  | ((with_reducible apply rv_mulW); assumption)
  | (with_reducible exact rv_p8) | (with_reducible exact rv_p18) | (with_reducible exact rv_p40) | (with_reducible exact rv_p20) | (with_reducible exact rv_p6) | (with_reducible exact rv_p7) | (with_reducible exact rv_p12) | (with_reducible exact rv_p25) | (with_reducible exact rv_p30) | (with_reducible exact rv_p39) | (with_reducible exact rv_p60)
  | ((with_reducible apply rv_ixxL); first | assumption | exact at_getD (by omega) (by omega) | exact at_nat rfl)
  | ((with_reducible apply rv_ixxT); first | assumption | exact at_getD (by omega) (by omega) | exact at_nat rfl)
  | ((with_reducible apply rv_ixxC); first | assumption)
  | (with_reducible exact ru_neg))
local macro_rules | `(tactic| walk_at "isi") => `(tactic| first | (with_reducible exact isi_non_int) | (with_reducible exact isi_non_bool) | (with_reducible exact isi_non_str) | (with_reducible exact isi_non_tuple) | (with_reducible exact isi_non_list) | (with_reducible exact isi_bl_int) | (with_reducible exact isi_bl_bool) | (with_reducible exact isi_bl_str) | (with_reducible exact isi_bl_tuple) | (with_reducible exact isi_bl_list) | (with_reducible exact isi_int_int) | (with_reducible exact isi_int_bool) | (with_reducible exact isi_int_str) | (with_reducible exact isi_int_tuple) | (with_reducible exact isi_int_list) | (with_reducible exact isi_str_int) | (with_reducible exact isi_str_bool) | (with_reducible exact isi_str_str) | (with_reducible exact isi_str_tuple) | (with_reducible exact isi_str_list) | (with_reducible exact isi_tup_int) | (with_reducible exact isi_tup_bool) | (with_reducible exact isi_tup_str) | (with_reducible exact isi_tup_tuple) | (with_reducible exact isi_tup_list) | (with_reducible exact isi_lst_int) | (with_reducible exact isi_lst_bool) | (with_reducible exact isi_lst_str) | (with_reducible exact isi_lst_tuple) | (with_reducible exact isi_lst_list))
local macro_rules | `(tactic| walk_at "rc") => `(tactic| first
  | walk_at "isi"
  | (with_reducible exact rc_len) | (with_reducible exact rc_lent) | (with_reducible exact rc_lenc) | (with_reducible exact rc_toint) | (with_reducible exact rc_absv) | (with_reducible exact rc_gcd)
  | ((with_reducible apply rc_lcm); assumption)
  | ((with_reducible apply rc_isi); (focus rfl); assumption)
  | (with_reducible exact rco_list) | (with_reducible exact rco_listT))
local macro_rules | `(tactic| walk_at "ev") => `(tactic| first
  | (with_reducible exact ev_int) | (with_reducible exact ev_bl) | (with_reducible exact ev_non) | (with_reducible exact ev_str) | (with_reducible exact ev_ty)
  | ((with_reducible apply ev_var); rfl)
  | ((with_reducible apply ev_lenOw); rfl)
  | ((with_reducible apply ev_op) <;> first | walk_at "ev" | walk_at "rv")
  | ((with_reducible apply ev_un) <;> first | walk_at "ev" | walk_at "rv")
  | ((with_reducible apply ev_cb) <;> first | walk_at "ev" | walk_at "rc")
  | ((with_reducible apply ev_call) <;> first | walk_at "ev" | walk_at "pr")
  | ((with_reducible apply ev_tup) <;> first | walk_at "ev" | (simp; done))
  | (with_reducible exact ea_nil)
  | ((with_reducible apply ea_cons) <;> walk_at "ev")
  | ((with_reducible apply et_test); walk_at "ev")
  | ((with_reducible apply et_B); walk_at "ev")
  | ((with_reducible apply et_not); walk_at "ev")
  | ((with_reducible apply et_or); (walk_at "ev"); intro _; walk_at "ev")
  | ((with_reducible apply et_and); (walk_at "ev"); intro _; walk_at "ev")
  | ((with_reducible apply ev_orV); (walk_at "ev"); intro _; walk_at "ev")
  | ((with_reducible apply ev_andV); (walk_at "ev"); intro _; walk_at "ev")
  | ((with_reducible apply ev_notV); walk_at "ev")
  | (with_reducible exact et_yes)
  | ((with_reducible apply evo_lst) <;> first | walk_at "ev" | (simp; done))
  | ((with_reducible apply ev_opO) <;> first | walk_at "ev" | ((with_reducible apply rvo_add); simp; omega))
  | ((with_reducible apply ev_cbO) <;> first | walk_at "ev" | walk_at "rc")
  | ((with_reducible apply ev_callO) <;> first | walk_at "ev" | walk_at "pr")
  | ((with_reducible apply ec_call) <;> first | walk_at "ev" | walk_at "pr")
  | ((with_reducible apply ec_tup) <;> first | walk_at "ev" | (simp; done))
  | ((with_reducible apply ec_lst) <;> first | walk_at "ev" | (simp; done))
  | (with_reducible exact eca_nil)
  | ((with_reducible apply eca_cons) <;> walk_at "ev")
  | ((with_reducible apply ec_sc); (walk_at "ev"); rfl)
  | ((with_reducible apply ec_ow); (walk_at "ev"); first | assumption | (intro d hd; simp at hd; done))
  | ((with_reducible apply ec_fz); walk_at "ev")
  | ((with_reducible apply ev_fz); walk_at "ev"))

local macro_rules | `(tactic| walk_at "im") => `(tactic| ((with_reducible apply wq_asg); walk_at "ev"; (try dsimp only [List.set, Int.reduceToNat])))
local macro_rules | `(tactic| walk_at "ow") => `(tactic| ((with_reducible apply wq_asgO); walk_at "ev"; (focus (first | decide | (simp; done))); (try dsimp only [List.set, Int.reduceToNat])))
local macro_rules | `(tactic| walk_at "cl") => `(tactic| ((with_reducible apply wq_asgC); walk_at "ev"; (focus (first | decide | (simp; done))); (try dsimp only [List.set, Int.reduceToNat])))
local macro_rules | `(tactic| walk_at "if") => `(tactic| ((first | (with_reducible apply wq_when) | (with_reducible apply wq_if) | (with_reducible apply ws_if)); walk_at "ev"; (try dsimp only [Int.reduceToNat])))
local macro_rules | `(tactic| walk_at "ret") => `(tactic| ((with_reducible apply ws_ret); walk_at "ev"))
local macro_rules | `(tactic| walk_at "go") => `(tactic| (try dsimp only [cxOf, L2.Cx.nox, L2.Cx.wish, L2.Cx.blk]))
local macro_rules | `(tactic| walk_at "ints") => `(tactic| (refine ev_fz (evo_lst ?_ (by decide)); repeat (first | exact ea_nil | refine ea_cons ev_int ?_)))

def szA : List Int := [3, 4, 4, 4, 2, 2]
def revI (cs : List Int) : List Int := (List.range cs.length).map fun k => cs.getD (cs.length - 1 - k) 0
def fitB (cs : List Int) : Bool := (decide (1 ≤ cs.length) && decide (cs.length ≤ 3)) && (cs.all (fun m => decide (1 ≤ m) && decide (m ≤ 4)) && decide (prodI cs ≤ 12))
theorem fitB_iff {cs : List Int} : fitB cs = true ↔ FitC cs := by
  unfold fitB FitC
  simp only [Bool.and_eq_true, decide_eq_true_eq, List.all_eq_true]
theorem rev_all : ∀ cs ∈ allC, fitB cs = true → fitB (revI cs) = true := by decide +kernel
theorem fit_rev {cs : List Int} (h : FitC cs) : FitC (revI cs) := fitB_iff.mp (rev_all cs (fit_all h) (fitB_iff.mpr h))
theorem pos_all : ∀ cs ∈ allC, 1 ≤ prodI cs := by decide +kernel
theorem fit_pos {cs : List Int} (h : FitC cs) : 1 ≤ prodI cs := pos_all cs (fit_all h)
theorem intsD_app (a b : List Int) : intsD (a ++ b) = .lst (a.map .int ++ b.map .int) := by rw [intsD, List.map_append]
section
variable {P : Program} {w : World} {K : PySem.W.Frag} {mg : Str → Option Value} {base : Heap} {C_Game C_Fault C_BadGame C_NoPerson C_NoWorld C_NoChoice : Addr}
def tabG (cs : List Int) (pays : List (List Int)) : D := .lst [intsD cs, rowsD pays]
def P_lgame : PrD := fun ds R _ => ∃ s ns, ds = [s] ∧ ScrD s ns ∧ ∀ cs pays, Fits cs pays → R (.im (tabG cs pays))
theorem ok_lgame (F : Df K mg "_law_game" s_law_game ["script"]) (gm : Gm K mg C_Game C_Fault C_BadGame C_NoPerson C_NoWorld C_NoChoice) (G_law_draws : FnG P w K mg base CX0 1 "_law_draws" ["cell", "sizes"] (spD K P_draws)) (G_law_cell : FnG P w K mg base CX0 1 "_law_cell" ["script", "k"] (spD K P_cell)) : FnG P w K mg base CX0 2 "_law_game" ["script"] (spD K P_lgame) := by
  refine F.ok (k := 1) sc_law_game (fun ds R Z ⟨a, b, e, _⟩ => by rw [e] <;> rfl) (fun f cdv A outer s H E hr => ?_)
  refine ⟨_,
    (pss_cons (sv 1 sc_law_game.nd (pe_g G_law_draws hr.le pass0 (pa_cons (pe_g G_law_cell hr.le pass0 (pa_cons (pv 0) (pa_cons pe_int pa_nil))) (pa_cons (pe_lst (pa_cons pe_int (pa_cons pe_int (pa_cons pe_int (pa_cons pe_int (pa_cons pe_int (pa_cons pe_int pa_nil))))))) pa_nil))))
    (pss_cons (sv 2 sc_law_game.nd (pe_lst pa_nil))
    (pss_cons (sv 3 sc_law_game.nd pe_int)
    (pss_cons (ps_for PassesOwn.never rfl (pi_range1 (by rfl) gm.range (pa_cons (pe_op (kAdd K) (ix K (pv 1) pe_int) pe_int) pa_nil)) (gn 4 sc_law_game.nd) (pss_cons (sv 5 sc_law_game.nd (cb (call_min2 rfl) gm.min (pa_cons (pe_op (kAdd K) (ix K (pv 1) (pe_op (kAdd K) pe_int (pv 4))) pe_int) (pa_cons (pe_op opDiv pe_int (pv 3)) pa_nil)))) (pss_cons (ps_expr (ml_append K (pv 2) (pa_cons (pv 5) pa_nil))) (pss_one (sv 3 sc_law_game.nd (pe_op opMul (pv 3) (pv 5)))))))
    (pss_cons (ps_if (pt_cmpR (kEq K hr.units) (ix K (pv 1) pe_int) pe_int (nomark _)) (pss_one (sv 2 sc_law_game.nd (pe_lc (own := [("k", 4)]) rfl sc_law_game.nd (pi_range1 (by rfl) gm.range (pa_cons (cb (kLen K) gm.len (pa_cons (pv 2) pa_nil)) pa_nil)) (blkOk_by (N := N_law_game) (sc := defScope s_law_game) (by decide +kernel)) (fun _ _ _ _ _ => (gn 4 sc_law_game.nd)) (fun _ _ _ _ _ => pts_nil) (fun _ _ _ _ _ => (ix K (pv 2) (pe_op opSub (pe_op opSub (cb (kLen K) gm.len (pa_cons (pv 2) pa_nil)) pe_int) (pv 4))))))) pss_nil)
    (pss_cons (sv 6 sc_law_game.nd (ix K (pe_lst (pa_cons pe_int (pa_cons pe_int pa_nil))) (ix K (pv 1) pe_int)))
    (pss_cons (sv 7 sc_law_game.nd (pe_lst pa_nil))
    (pss_cons (ps_for PassesOwn.never rfl (pi_range1 (by rfl) gm.range (pa_cons (cb (kLen K) gm.len (pa_cons (pv 2) pa_nil)) pa_nil)) (gn 8 sc_law_game.nd) (pss_cons (sv 9 sc_law_game.nd (pe_g G_law_draws hr.le pass0 (pa_cons (pe_g G_law_cell hr.le pass0 (pa_cons (pv 0) (pa_cons (pe_op (kAdd K) pe_int (pv 8)) pa_nil))) (pa_cons (pe_lc (own := [("k", 4)]) rfl sc_law_game.nd (pi_range1 (by rfl) gm.range (pa_cons (pv 3) pa_nil)) (blkOk_by (N := N_law_game) (sc := defScope s_law_game) (by decide +kernel)) (fun _ _ _ _ _ => (gn 4 sc_law_game.nd)) (fun _ _ _ _ _ => pts_nil) (fun _ _ _ _ _ => (pe_op (kAdd K) (pe_op opMul pe_int (pv 6)) pe_int))) pa_nil)))) (pss_one (ps_expr (ml_append K (pv 7) (pa_cons (pe_lc (own := [("n", 10)]) rfl sc_law_game.nd (pl K (pv 9)) (blkOk_by (N := N_law_game) (sc := defScope s_law_game) (by decide +kernel)) (fun _ _ _ _ _ => (gn 10 sc_law_game.nd)) (fun _ _ _ _ _ => pts_nil) (fun _ _ _ _ _ => (pe_op opSub (pv 10) (pv 6)))) pa_nil))))))
    (pss_one (ps_ret (pe_lst (pa_cons (pv 2) (pa_cons (pv 7) pa_nil))))))))))))), fun ds R Z p => ?_⟩
  obtain ⟨s, ns, rfl, hs, p⟩ := p
  refine ws_to (ρ' := [.im s, .no, .no, .no, .no, .no, .no, .no, .no, .no, .no]) rfl ?_
  walk_at "go"
  refine wq_asg (d := intsD (draws (cell ns 0) szA)) (ec_fz (ec_call (ea_cons (ev_call (by walk_at "ev") (pr_cell hs (by decide))) (ea_cons (by walk_at "ints") ea_nil)) (pr_draws (sizes := szA) (by decide) (by decide)))) ?_
  dsimp only [List.set]
  have hlen : (draws (cell ns 0) szA).length = 6 := draws_len _ _
  have hbd : ∀ i, i < 6 → 0 ≤ (draws (cell ns 0) szA).getD i 0 ∧ (draws (cell ns 0) szA).getD i 0 < szA.getD i 0 := fun i hi => draws_bd (cell ns 0) szA i (by decide) hi
  generalize draws (cell ns 0) szA = sh at hlen hbd
  have hat : ∀ i : Nat, i < 6 → atI (sh.map D.int) (i : Int) = some (.int (sh.getD i 0)) := fun i hi => at_ints (by omega)
  have b0 := hbd 0 (by decide)
  have b5 := hbd 5 (by decide)
  rw [show szA.getD 0 0 = 3 from rfl] at b0
  rw [show szA.getD 5 0 = 2 from rfl] at b5
  have e0 : sh.getD 0 0 + 1 = (((sh.getD 0 0 + 1).toNat : Nat) : Int) := by omega
  refine wq_asgO (evo_lst ea_nil (by simp)) (by simp) ?_
  dsimp only [List.set]
  refine wq_asg (d := .int 1) ev_int ?_
  dsimp only [List.set]
  refine wq_forN (n := (sh.getD 0 0 + 1).toNat) (ea_cons ((ev_op (ev_op (ev_var rfl) ev_int (rv_ixxL (hat 0 (by decide)))) ev_int rv_add).is (by rw [← e0])) ea_nil) (by omega)
    (fun i u => ∃ cs s4 s5, u = [(2, .ow (cs.map .int)), (3, .im (.int (prodI cs))), (4, s4), (5, s5)] ∧ cs.length = i ∧ (∀ m ∈ cs, 1 ≤ m ∧ m ≤ 4) ∧ 1 ≤ prodI cs ∧ prodI cs ≤ 12 ∧ isOw (some s4) = false) ⟨_, ⟨[], _, _, rfl, rfl, by simp, by decide, by decide, rfl⟩, rfl⟩ ?_ ?_
  · rintro i u hi ⟨cs, s4, s5, rfl, hcl, hm, h1, h12, h4⟩
    dsimp only [up, List.set]
    have e1 : (1 : Int) + (i : Int) = ((1 + i : Nat) : Int) := by omega
    have bi := hbd (1 + i) (by omega)
    have bz : szA.getD (1 + i) 0 = 4 := by
      have : i = 0 ∨ i = 1 ∨ i = 2 := by omega
      rcases this with rfl | rfl | rfl <;> rfl
    rw [bz] at bi
    have h12d : 1 ≤ 12 / prodI cs ∧ 12 / prodI cs * prodI cs ≤ 12 := by
      refine ⟨?_, Int.ediv_mul_le _ (by omega)⟩
      exact (Int.le_ediv_iff_mul_le (by omega)).mpr (by omega)
    refine wq_asg (d := .int (min (sh.getD (1 + i) 0 + 1) (12 / prodI cs))) (ev_cb (ea_cons (ev_op (ev_op (ev_var rfl) (ev_op ev_int (ev_var rfl) rv_add) (rv_ixxL (by rw [e1]; exact hat _ (by omega)))) ev_int rv_add) (ea_cons (ev_op ev_int (ev_var rfl) (rv_div (cdiv_small (by omega) (by omega)))) ea_nil)) rc_min2) ?_
    dsimp only [List.set]
    generalize hmany : min (sh.getD (1 + i) 0 + 1) (12 / prodI cs) = many
    have hmb : 1 ≤ many ∧ many ≤ 4 ∧ many ≤ 12 / prodI cs := by omega
    have hp2 : prodI (cs ++ [many]) = prodI cs * many := by
      unfold prodI
      rw [List.foldl_append]
      rfl
    have hle : prodI cs * many ≤ 12 := by
      have a : prodI cs * many ≤ prodI cs * (12 / prodI cs) := Int.mul_le_mul_of_nonneg_left hmb.2.2 (by omega)
      rw [Int.mul_comm (prodI cs) (12 / prodI cs)] at a
      omega
    have hge : 1 ≤ prodI cs * many := Int.mul_pos (by omega) (by omega)
    refine wq_app (i := 2) rfl (ev_var rfl) (by rw [List.length_map]; omega) ?_
    dsimp only [List.set]
    refine ws_asg (d := .int (prodI (cs ++ [many]))) ((ev_op (ev_var rfl) (ev_var rfl) (rv_mul (cmul_right (by omega)))).is (by rw [hp2])) ⟨_, ⟨cs ++ [many], .im (.int (i : Int)), .im (.int many), rfl, by simp [hcl], fun m hm' => ?_, by rw [hp2]; exact hge, by rw [hp2]; exact hle, rfl⟩, ?_⟩
    · rcases List.mem_append.mp hm' with h | h
      · exact hm m h
      · rw [List.mem_singleton.mp h]
        omega
    · dsimp only [up, List.set]
      rw [List.map_append]
      rfl
  · rintro u ⟨cs, s4, s5, rfl, hcl, hm, h1, h12, h4⟩
    dsimp only [up, List.set]
    have hf : FitC cs := ⟨by omega, hm, h12⟩
    refine ws_fz (i := 2) rfl ?_
    dsimp only [List.set]
    refine ws_mid (fun ρ' => ∃ cs', FitC cs' ∧ ρ' = [.im s, .im (intsD sh), .im (intsD cs'), .im (.int (prodI cs)), s4, s5, .no, .no, .no, .no, .no] ∧ prodI cs' = prodI cs) ?_ ?_
    · refine ws_if (et_test (ev_op (ev_op (ev_var rfl) ev_int (rv_ixxL (hat 4 (by decide)))) ev_int rv_eq)) (fun _ => ?_) (fun _ => ws_next ⟨cs, hf, rfl, rfl⟩)
      refine ws_asg (d := intsD (revI cs)) ((ev_fz (lc_N (n := cs.length) (fun k => D.int (cs.getD (cs.length - 1 - k) 0)) (ea_cons ((ev_cb (ea_cons (ev_var rfl) ea_nil) rc_len).is (by rw [List.length_map])) ea_nil) h4 (fun k hk => ?_) (by omega))).is ?_) ⟨revI cs, fit_rev hf, rfl, ?_⟩
      · dsimp only [List.set]
        have e2 : (cs.length : Int) - 1 - (k : Int) = ((cs.length - 1 - k : Nat) : Int) := by omega
        exact ev_op (ev_var rfl) ((ev_op (ev_op ((ev_cb (ea_cons (ev_var rfl) ea_nil) rc_len).is (by rw [List.length_map])) ev_int rv_sub) (ev_var rfl) rv_sub).is (by rw [e2])) (rv_ixxL (at_ints (by omega)))
      · show D.lst _ = D.lst _
        rw [revI, List.map_map]
        rfl
      · have : ∀ cs ∈ allC, prodI (revI cs) = prodI cs := by decide +kernel
        exact this cs (fit_all hf)
    · rintro ρ' ⟨cs', hf', rfl, hpe⟩
      have hl' := hf'.1
      have hb' : sh.getD 5 0 = 0 ∨ sh.getD 5 0 = 1 := by omega
      obtain ⟨most, hmost, hme⟩ : ∃ most : Int, (most = 2 ∨ most = 99) ∧ atI [D.int 2, D.int 99] (sh.getD 5 0) = some (.int most) := by
        rcases hb' with h | h <;> rw [h]
        · exact ⟨2, .inl rfl, rfl⟩
        · exact ⟨99, .inr rfl, rfl⟩
      refine wq_asg (d := .int most) (ev_op (ev_fz (evo_lst (ea_cons ev_int (ea_cons ev_int ea_nil)) (by simp))) (ev_op (ev_var rfl) ev_int (rv_ixxL (hat 5 (by decide)))) (rv_ixxL hme)) ?_
      dsimp only [List.set]
      refine wq_asgO (evo_lst ea_nil (by simp)) (by simp) ?_
      dsimp only [List.set]
      have eo : prodI cs = (((prodI cs).toNat : Nat) : Int) := by omega
      refine wq_forN (n := cs'.length) (ea_cons ((ev_cb (ea_cons (ev_var rfl) ea_nil) rc_len).is (by rw [List.length_map])) ea_nil) (by omega)
        (fun i u => ∃ ps s8 s9, u = [(7, .ow (ps.map intsD)), (8, s8), (9, s9)] ∧ ps.length = i ∧ ∀ r ∈ ps, (r.length : Int) = prodI cs ∧ ∀ x ∈ r, -99 ≤ x ∧ x ≤ 99) ⟨_, ⟨[], _, _, rfl, rfl, by simp⟩, rfl⟩ ?_ ?_
      · rintro i u hi ⟨ps, s8, s9, rfl, hpl, hpr⟩
        dsimp only [up, List.set]
        have hsz : ∀ x ∈ (List.range (prodI cs).toNat).map (fun _ => 2 * most + 1), 0 < x ∧ x < 2 ^ 200 := fun x hx => by
          obtain ⟨_, _, rfl⟩ := List.mem_map.mp hx
          rcases hmost with rfl | rfl <;> decide
        refine wq_asg (d := intsD (draws (cell ns (1 + (i : Int))) ((List.range (prodI cs).toNat).map fun _ => 2 * most + 1))) (ec_fz (ec_call (ea_cons (ev_call (ea_cons (ev_var rfl) (ea_cons (ev_op ev_int (ev_var rfl) rv_add) ea_nil)) (pr_cell hs (by omega))) (ea_cons ((ev_fz (lc_N (n := (prodI cs).toNat) (fun _ => D.int (2 * most + 1)) (ea_cons ((ev_var rfl).is (by rw [← eo])) ea_nil) h4 (fun k hk => ?_) (by omega))).is ?_) ea_nil)) (pr_draws hsz (by rw [List.length_map, List.length_range]; omega)))) ?_
        · dsimp only [List.set]
          exact ev_op (ev_op ev_int (ev_var rfl) (rv_mul (cmul_left (by omega)))) ev_int rv_add
        · rw [List.map_map]
          rfl
        dsimp only [List.set]
        have hdl := draws_len (cell ns (1 + (i : Int))) ((List.range (prodI cs).toNat).map fun _ => 2 * most + 1)
        rw [List.length_map, List.length_range] at hdl
        have hdb : ∀ x ∈ draws (cell ns (1 + (i : Int))) ((List.range (prodI cs).toNat).map fun _ => 2 * most + 1), 0 ≤ x ∧ x < 2 * most + 1 := fun x hx => by
          obtain ⟨j, hj, rfl⟩ := List.getElem_of_mem hx
          have := draws_bd (cell ns (1 + (i : Int))) ((List.range (prodI cs).toNat).map fun _ => 2 * most + 1) j (fun s hs => (hsz s hs).1) (by rw [List.length_map, List.length_range]; omega)
          rw [List.getD_eq_getElem?_getD, List.getD_eq_getElem?_getD, List.getElem?_eq_getElem hj, List.getElem?_map, List.getElem?_range (by omega)] at this
          exact this
        generalize draws (cell ns (1 + (i : Int))) ((List.range (prodI cs).toNat).map fun _ => 2 * most + 1) = row at hdl hdb
        refine ws_app (i := 7) (l := ps.map intsD) (d := intsD (row.map fun n => n - most)) rfl ((ev_fz (lc_L (xs := row) (enc := .int) (fun n => D.int (n - most)) (ev_var rfl) rfl (fun n hn => ?_) (by omega))).is ?_) (by rw [List.length_map]; omega) ⟨_, ⟨ps ++ [row.map fun n => n - most], .im (.int (i : Int)), .im (intsD row), rfl, by simp [hpl], fun r hr' => ?_⟩, ?_⟩
        · dsimp only [List.set]
          exact ev_op (ev_var rfl) (ev_var rfl) rv_sub
        · show D.lst _ = D.lst _
          rw [List.map_map]
          rfl
        · rcases List.mem_append.mp hr' with h | h
          · exact hpr r h
          · rw [List.mem_singleton.mp h]
            refine ⟨by rw [List.length_map]; omega, fun x hx => ?_⟩
            obtain ⟨y, hy, rfl⟩ := List.mem_map.mp hx
            have := hdb y hy
            rcases hmost with rfl | rfl <;> omega
        · dsimp only [up, List.set]
          rw [List.map_append]
          rfl
      · rintro u ⟨ps, s8, s9, rfl, hpl, hpr⟩
        dsimp only [up, List.set]
        refine ws_fz (i := 7) rfl ?_
        dsimp only [List.set]
        exact ws_ret (ev_fz (evo_lst (ea_cons (ev_var rfl) (ea_cons (ev_var rfl) ea_nil)) (by simp))) (p cs' ps ⟨hf', hpl, fun r hr' => by rw [hpe]; exact hpr r hr'⟩)
end
end FS
set_option Elab.async false
set_option linter.all false
set_option maxRecDepth 100000
set_option maxHeartbeats 4000000
set_option exponentiation.threshold 20000
namespace FS
open PySem PySem.Spec PyProof.Rows L2

local macro_rules | `(tactic| walk_at "side") => `(tactic| first | assumption | omega | decide)
local macro_rules | `(tactic| walk_at "hv") => `(tactic| (intro i hi; simp at hi; first | (subst hi; rfl) | (rcases hi with rfl | rfl <;> rfl) | (rcases hi with rfl | rfl | rfl <;> rfl)))
local macro_rules | `(tactic| walk_at "pr") => `(tactic| fail "no promise")
local macro_rules | `(tactic| walk_at "rv") => `(tactic| first
  | (with_reducible exact rv_add) | (with_reducible exact rv_sub) | (with_reducible exact rv_lt) | (with_reducible exact rv_le) | (with_reducible exact rv_gt) | (with_reducible exact rv_ge) | (with_reducible exact rv_eq) | (with_reducible exact rv_ne)
  | (with_reducible exact rv_is) | (with_reducible exact rv_isnot)
  | ((with_reducible apply rv_div); first | assumption | exact cdiv_small (by omega) (by omega))
  | ((with_reducible apply rv_mod); first | assumption | omega)
  | ((with_reducible apply rv_mul); first | assumption | exact cmul_left (by omega) | exact cmul_right (by omega))
  | ((with_reducible apply rv_mulW); assumption)
  | (with_reducible exact rv_p8) | (with_reducible exact rv_p18) | (with_reducible exact rv_p40) | (with_reducible exact rv_p20) | (with_reducible exact rv_p6) | (with_reducible exact rv_p7) | (with_reducible exact rv_p12) | (with_reducible exact rv_p25) | (with_reducible exact rv_p30) | (with_reducible exact rv_p39) | (with_reducible exact rv_p60)
  | ((with_reducible apply rv_ixxL); first | assumption | exact at_getD (by omega) (by omega) | exact at_nat rfl)
  | ((with_reducible apply rv_ixxT); first | assumption | exact at_getD (by omega) (by omega) | exact at_nat rfl)
  | ((with_reducible apply rv_ixxC); first | assumption)
  | (with_reducible exact ru_neg))
local macro_rules | `(tactic| walk_at "isi") => `(tactic| first | (with_reducible exact isi_non_int) | (with_reducible exact isi_non_bool) | (with_reducible exact isi_non_str) | (with_reducible exact isi_non_tuple) | (with_reducible exact isi_non_list) | (with_reducible exact isi_bl_int) | (with_reducible exact isi_bl_bool) | (with_reducible exact isi_bl_str) | (with_reducible exact isi_bl_tuple) | (with_reducible exact isi_bl_list) | (with_reducible exact isi_int_int) | (with_reducible exact isi_int_bool) | (with_reducible exact isi_int_str) | (with_reducible exact isi_int_tuple) | (with_reducible exact isi_int_list) | (with_reducible exact isi_str_int) | (with_reducible exact isi_str_bool) | (with_reducible exact isi_str_str) | (with_reducible exact isi_str_tuple) | (with_reducible exact isi_str_list) | (with_reducible exact isi_tup_int) | (with_reducible exact isi_tup_bool) | (with_reducible exact isi_tup_str) | (with_reducible exact isi_tup_tuple) | (with_reducible exact isi_tup_list) | (with_reducible exact isi_lst_int) | (with_reducible exact isi_lst_bool) | (with_reducible exact isi_lst_str) | (with_reducible exact isi_lst_tuple) | (with_reducible exact isi_lst_list))
local macro_rules | `(tactic| walk_at "rc") => `(tactic| first
  | walk_at "isi"
  | (with_reducible exact rc_len) | (with_reducible exact rc_lent) | (with_reducible exact rc_lenc) | (with_reducible exact rc_toint) | (with_reducible exact rc_absv) | (with_reducible exact rc_gcd)
  | ((with_reducible apply rc_lcm); assumption)
  | ((with_reducible apply rc_isi); (focus rfl); assumption)
  | (with_reducible exact rco_list) | (with_reducible exact rco_listT))
local macro_rules | `(tactic| walk_at "ev") => `(tactic| first
  | (with_reducible exact ev_int) | (with_reducible exact ev_bl) | (with_reducible exact ev_non) | (with_reducible exact ev_str) | (with_reducible exact ev_ty)
  | ((with_reducible apply ev_var); rfl)
  | ((with_reducible apply ev_lenOw); rfl)
  | ((with_reducible apply ev_op) <;> first | walk_at "ev" | walk_at "rv")
  | ((with_reducible apply ev_un) <;> first | walk_at "ev" | walk_at "rv")
  | ((with_reducible apply ev_cb) <;> first | walk_at "ev" | walk_at "rc")
  | ((with_reducible apply ev_call) <;> first | walk_at "ev" | walk_at "pr")
  | ((with_reducible apply ev_tup) <;> first | walk_at "ev" | (simp; done))
  | (with_reducible exact ea_nil)
  | ((with_reducible apply ea_cons) <;> walk_at "ev")
  | ((with_reducible apply et_test); walk_at "ev")
  | ((with_reducible apply et_B); walk_at "ev")
  | ((with_reducible apply et_not); walk_at "ev")
  | ((with_reducible apply et_or); (walk_at "ev"); intro _; walk_at "ev")
  | ((with_reducible apply et_and); (walk_at "ev"); intro _; walk_at "ev")
  | ((with_reducible apply ev_orV); (walk_at "ev"); intro _; walk_at "ev")
  | ((with_reducible apply ev_andV); (walk_at "ev"); intro _; walk_at "ev")
  | ((with_reducible apply ev_notV); walk_at "ev")
  | (with_reducible exact et_yes)
  | ((with_reducible apply evo_lst) <;> first | walk_at "ev" | (simp; done))
  | ((with_reducible apply ev_opO) <;> first | walk_at "ev" | ((with_reducible apply rvo_add); simp; omega))
  | ((with_reducible apply ev_cbO) <;> first | walk_at "ev" | walk_at "rc")
  | ((with_reducible apply ev_callO) <;> first | walk_at "ev" | walk_at "pr")
  | ((with_reducible apply ec_call) <;> first | walk_at "ev" | walk_at "pr")
  | ((with_reducible apply ec_tup) <;> first | walk_at "ev" | (simp; done))
  | ((with_reducible apply ec_lst) <;> first | walk_at "ev" | (simp; done))
  | (with_reducible exact eca_nil)
  | ((with_reducible apply eca_cons) <;> walk_at "ev")
  | ((with_reducible apply ec_sc); (walk_at "ev"); rfl)
  | ((with_reducible apply ec_ow); (walk_at "ev"); first | assumption | (intro d hd; simp at hd; done))
  | ((with_reducible apply ec_fz); walk_at "ev")
  | ((with_reducible apply ev_fz); walk_at "ev"))

local macro_rules | `(tactic| walk_at "im") => `(tactic| ((with_reducible apply wq_asg); walk_at "ev"; (try dsimp only [List.set, Int.reduceToNat])))
local macro_rules | `(tactic| walk_at "ow") => `(tactic| ((with_reducible apply wq_asgO); walk_at "ev"; (focus (first | decide | (simp; done))); (try dsimp only [List.set, Int.reduceToNat])))
local macro_rules | `(tactic| walk_at "cl") => `(tactic| ((with_reducible apply wq_asgC); walk_at "ev"; (focus (first | decide | (simp; done))); (try dsimp only [List.set, Int.reduceToNat])))
local macro_rules | `(tactic| walk_at "if") => `(tactic| ((first | (with_reducible apply wq_when) | (with_reducible apply wq_if) | (with_reducible apply ws_if)); walk_at "ev"; (try dsimp only [Int.reduceToNat])))
local macro_rules | `(tactic| walk_at "ret") => `(tactic| ((with_reducible apply ws_ret); walk_at "ev"))
local macro_rules | `(tactic| walk_at "go") => `(tactic| (try dsimp only [cxOf, L2.Cx.nox, L2.Cx.wish, L2.Cx.blk]))
local macro_rules | `(tactic| walk_at "ints") => `(tactic| (refine ev_fz (evo_lst ?_ (by decide)); repeat (first | exact ea_nil | refine ea_cons ev_int ?_)))

section
variable {K : PySem.W.Frag} {E : L2.WX} {ρ : Rho} {P : Pst} {to : TE} {tz : TS} {d : D} {l : List D} {i : Nat} {π : List Nat}
/-- PATH.clear() -/
theorem ws_clearP (e : ρ[i]? = some (.cl d)) (hp : EvL K to ρ i π) (hd : D.at π d = some (.lst l)) (h : P.nx (ρ.set i (.cl (D.put π d (.lst []))))) : Ws K E (tDrop (tBM0 K "list" rClear to)) ρ P := fun M T0 H T σ Dn en k =>
  hp M T0 H T σ [] _ en fun u H1 T1 s1 t1 e1 ⟨v, n1, n2⟩ => by
    obtain ⟨v', u', Ls, L0, h1, ⟨a, vs, Lt, eu, eL, hl⟩, h3, h4, h5⟩ := e1.spot e hd
    rw [n1] at h1
    cases h1
    cases Nav.eq n2 h3
    subst eu
    subst eL
    have hT : T1 a = some (.lst vs) := h4.here rfl (a, .lst vs) List.mem_cons_self
    refine ⟨.inl ⟨rfl, vs, .inl (.inl hT)⟩, a, vs, rfl, rfl, hT, k.nx _ σ H1 _ h s1 ?_⟩
    refine h5 H1 _ [] (.lst []) ((a, .lst []) :: []) (Same.refl _) ?_ ⟨a, [], [], rfl, rfl, rfl, rfl⟩
    have g6 := EnX.write (o' := .lst []) h4
    exact g6.sub (List.Sublist.cons_cons _ (List.sublist_append_right _ _))
theorem wq_clearP (e : ρ[i]? = some (.cl d)) (hp : EvL K to ρ i π) (hd : D.at π d = some (.lst l)) (h : Ws K E tz (ρ.set i (.cl (D.put π d (.lst [])))) P) : Ws K E (tSeq (tDrop (tBM0 K "list" rClear to)) tz) ρ P := ws_seq (ws_clearP e hp hd h)
theorem wq_popP (e : ρ[i]? = some (.cl d)) (hp : EvL K to ρ i π) (hd : D.at π d = some (.lst l)) (hl0 : 0 < l.length) (h : Ws K E tz (ρ.set i (.cl (D.put π d (.lst l.dropLast)))) P) : Ws K E (tSeq (tDrop (tBM0 K "list" rPop to)) tz) ρ P := ws_seq (ws_popP e hp hd hl0 h)
theorem wq_setP {te tb : TE} {x : D} {j : Nat} {k : Int} {y0 : D} (e : ρ[i]? = some (.cl d)) (hv : EvC K te ρ x) (hp : EvL K to ρ i π) (hd : D.at π d = some (.lst l)) (hb : EvD K tb ρ (.int k)) (hj : ixN l.length k = some j) (h0 : l[j]? = some y0) (h : Ws K E tz (ρ.set i (.cl (D.put π d (.lst (l.set j x))))) P) :
    Ws K E (tSeq (tAsg te (gSub to tb rSetL)) tz) ρ P := ws_seq (ws_setP e hv hp hd hb hj h0 h)
end

section
variable {P : Program} {w : World} {K : PySem.W.Frag} {mg : Str → Option Value} {base : Heap} {C_Game C_Fault C_BadGame C_NoPerson C_NoWorld C_NoChoice : Addr}
/-! ### _law_fits -/
def P_fits : PrD := fun ds R _ => ∃ (cs : List Int) (pays : List (List Int)), ds = [intsD cs, rowsD pays] ∧ (Fits cs pays → R (.im (.bl true))) ∧ (¬ Fits cs pays → R (.im (.bl false)))
theorem ok_fits (F : Df K mg "_law_fits" s_law_fits ["choices", "pays"]) (gm : Gm K mg C_Game C_Fault C_BadGame C_NoPerson C_NoWorld C_NoChoice) : FnG P w K mg base CX0 1 "_law_fits" ["choices", "pays"] (spD K P_fits) := by
  refine F.ok (k := 0) sc_law_fits (fun ds R Z ⟨a, b, e, _⟩ => by rw [e] <;> rfl) (fun f cdv A outer s H E hr => ?_)
  refine ⟨_,
    (pss_cons (ps_if (PW.pt (pw_or (pt_cmpR opLt (cb (kLen K) gm.len (pa_cons (pv 0) pa_nil)) pe_int (nomark _)) (pw_or1 (pt_cmpR opGt (cb (kLen K) gm.len (pa_cons (pv 0) pa_nil)) pe_int (nomark _))))) (pss_one (ps_ret pe_bl)) pss_nil)
    (pss_cons (sv 2 sc_law_fits.nd pe_int)
    (pss_cons (ps_for PassesOwn.never rfl (pl K (pv 0)) (gn 3 sc_law_fits.nd) (pss_cons (ps_if (PW.pt (pw_or (pt_cmpR opLt (pv 3) pe_int (nomark _)) (pw_or1 (pt_cmpR opGt (pv 3) pe_int (nomark _))))) (pss_one (ps_ret pe_bl)) pss_nil) (pss_one (sv 2 sc_law_fits.nd (pe_op opMul (pv 2) (pv 3))))))
    (pss_cons (ps_if (PW.pt (pw_or (pt_cmpR opGt (pv 2) pe_int (nomark _)) (pw_or1 (pt_cmpR (kNe K hr.units) (cb (kLen K) gm.len (pa_cons (pv 1) pa_nil)) (cb (kLen K) gm.len (pa_cons (pv 0) pa_nil)) (nomark _))))) (pss_one (ps_ret pe_bl)) pss_nil)
    (pss_cons (ps_for PassesOwn.never rfl (pl K (pv 1)) (gn 4 sc_law_fits.nd) (pss_cons (ps_if (pt_cmpR (kNe K hr.units) (cb (kLen K) gm.len (pa_cons (pv 4) pa_nil)) (pv 2) (nomark _)) (pss_one (ps_ret pe_bl)) pss_nil) (pss_one (ps_for PassesOwn.never rfl (pl K (pv 4)) (gn 5 sc_law_fits.nd) (pss_one (ps_if (PW.pt (pw_or (pt_cmpR opLt (pv 5) (pe_un unNeg pe_int) (nomark _)) (pw_or1 (pt_cmpR opGt (pv 5) pe_int (nomark _))))) (pss_one (ps_ret pe_bl)) pss_nil))))))
    (pss_one (ps_ret pe_bl))))))), fun ds R Z p => ?_⟩
  obtain ⟨cs, pays, rfl, p1, p2⟩ := p
  refine ws_to (ρ' := [.im (intsD cs), .im (rowsD pays), .no, .no, .no, .no]) rfl ?_
  walk_at "go"
  have hlen : ∀ (ρ : Rho) (i : Nat) (l : List Int), ρ[i]? = some (.im (intsD l)) → EvD K (tCB (rLenA K) (tCons (tVar i) tNil)) ρ (.int (l.length : Int)) := fun ρ i l e => (ev_cb (ea_cons (ev_var e) ea_nil) rc_len).is (by rw [List.length_map])
  have hlenR : ∀ (ρ : Rho) (i : Nat) (l : List (List Int)), ρ[i]? = some (.im (rowsD l)) → EvD K (tCB (rLenA K) (tCons (tVar i) tNil)) ρ (.int (l.length : Int)) := fun ρ i l e => (ev_cb (ea_cons (ev_var e) ea_nil) rc_len).is (by rw [List.length_map])
  refine wq_when (et_or (et_test (ev_op (hlen _ 0 cs rfl) ev_int rv_lt)) fun _ => et_test (ev_op (hlen _ 0 cs rfl) ev_int rv_gt)) (fun hb => ws_ret ev_bl (p2 fun h => ?_)) (fun hb => ?_)
  · have hb : (cs.length : Int) < 1 ∨ 3 < (cs.length : Int) := by simpa using hb
    have := h.1.1
    omega
  have hb1 : 1 ≤ cs.length ∧ cs.length ≤ 3 := by
    have hb : 1 ≤ (cs.length : Int) ∧ (cs.length : Int) ≤ 3 := by simpa using hb
    omega
  refine wq_asg (d := .int 1) ev_int ?_
  dsimp only [List.set]
  refine wq_forL (xs := cs) (enc := .int) (ev_var rfl) (fun i u => ∃ s3, u = [(2, .im (.int (prodI (cs.take i)))), (3, s3)] ∧ ∀ m ∈ cs.take i, 1 ≤ m ∧ m ≤ 4) ⟨_, ⟨_, rfl, by simp⟩, rfl⟩ ?_ ?_
  · rintro i m u hm ⟨s3, rfl, hs⟩
    dsimp only [up, List.set]
    have hmem := List.mem_of_getElem? hm
    refine wq_when (et_or (et_test (ev_op (ev_var rfl) ev_int rv_lt)) fun _ => et_test (ev_op (ev_var rfl) ev_int rv_gt)) (fun hb => ws_ret ev_bl (p2 fun h => ?_)) (fun hb => ?_)
    · have hb : m < 1 ∨ 4 < m := by simpa using hb
      have := h.1.2.1 m hmem
      omega
    have hb : 1 ≤ m ∧ m ≤ 4 := by simpa using hb
    refine ws_asg (d := .int (prodI (cs.take (i + 1)))) ((ev_op (ev_var rfl) (ev_var rfl) (rv_mul (cmul_right (by omega)))).is (by rw [prodI_take hm])) ⟨_, ⟨.im (.int m), rfl, fun x hx => ?_⟩, rfl⟩
    rw [List.take_add_one, hm] at hx
    rcases List.mem_append.mp hx with hx | hx
    · exact hs x hx
    · rw [List.mem_singleton.mp hx]
      exact hb
  rintro u ⟨s3, rfl, hs⟩
  dsimp only [up, List.set]
  rw [List.take_length] at hs ⊢
  refine wq_when (et_or (et_test (ev_op (ev_var rfl) ev_int rv_gt)) fun _ => et_test (ev_op (hlenR _ 1 pays rfl) (hlen _ 0 cs rfl) rv_ne)) (fun hb => ws_ret ev_bl (p2 fun h => ?_)) (fun hb => ?_)
  · have hb : 12 < prodI cs ∨ ¬ (pays.length : Int) = (cs.length : Int) := by simpa using hb
    have h1 := h.1.2.2
    have h2 := h.2.1
    omega
  have hb2 : prodI cs ≤ 12 ∧ pays.length = cs.length := by
    have hb : prodI cs ≤ 12 ∧ (pays.length : Int) = (cs.length : Int) := by simpa using hb
    omega
  refine wq_forL (xs := pays) (enc := intsD) (ev_var rfl) (fun i u => ∃ s4 s5, u = [(4, s4), (5, s5)] ∧ ∀ r ∈ pays.take i, (r.length : Int) = prodI cs ∧ ∀ x ∈ r, -99 ≤ x ∧ x ≤ 99) ⟨_, ⟨_, _, rfl, by simp⟩, rfl⟩ ?_ ?_
  · rintro i r u hr' ⟨s4, s5, rfl, hs4⟩
    dsimp only [up, List.set]
    have hmem := List.mem_of_getElem? hr'
    refine wq_when (et_test (ev_op (hlen _ 4 r rfl) (ev_var rfl) rv_ne)) (fun hb => ws_ret ev_bl (p2 fun h => ?_)) (fun hb => ?_)
    · have hb : ¬ (r.length : Int) = prodI cs := by simpa using hb
      exact hb (h.2.2 r hmem).1
    have hb3 : (r.length : Int) = prodI cs := by simpa using hb
    refine ws_forL (xs := r) (enc := .int) (ev_var rfl) (fun j u => ∃ s5, u = [(5, s5)] ∧ ∀ x ∈ r.take j, -99 ≤ x ∧ x ≤ 99) ⟨_, ⟨_, rfl, by simp⟩, rfl⟩ ?_ ?_
    · rintro j x u hx ⟨s5, rfl, hs5⟩
      dsimp only [up, List.set]
      have hxm := List.mem_of_getElem? hx
      refine ws_if (et_or (et_test (ev_op (ev_var rfl) (ev_un ev_int ru_neg) rv_lt)) fun _ => et_test (ev_op (ev_var rfl) ev_int rv_gt)) (fun hb => ws_ret ev_bl (p2 fun h => ?_)) (fun hb => ?_)
      · have hb : x < -99 ∨ 99 < x := by simpa using hb
        have := (h.2.2 r hmem).2 x hxm
        omega
      · have hb : -99 ≤ x ∧ x ≤ 99 := by simpa using hb
        refine ws_next ⟨_, ⟨.im (.int x), rfl, fun y hy => ?_⟩, rfl⟩
        rw [List.take_add_one, hx] at hy
        rcases List.mem_append.mp hy with hy | hy
        · exact hs5 y hy
        · rw [List.mem_singleton.mp hy]
          exact hb
    · rintro u ⟨s5, rfl, hs5⟩
      dsimp only [up, List.set]
      rw [List.take_length] at hs5
      refine ⟨_, ⟨.im (intsD r), s5, rfl, fun y hy => ?_⟩, rfl⟩
      rw [List.take_add_one, hr'] at hy
      rcases List.mem_append.mp hy with hy | hy
      · exact hs4 y hy
      · rw [List.mem_singleton.mp hy]
        exact ⟨hb3, hs5⟩
  · rintro u ⟨s4, s5, rfl, hs4⟩
    rw [List.take_length] at hs4
    exact ws_ret ev_bl (p1 ⟨⟨hb1, hs, hb2.1⟩, hb2.2, hs4⟩)
end
end FS
set_option Elab.async false
set_option linter.all false
set_option maxRecDepth 100000
set_option maxHeartbeats 4000000
set_option exponentiation.threshold 20000
namespace FS
open PySem PySem.Spec PyProof.Rows L2

local macro_rules | `(tactic| walk_at "side") => `(tactic| first | assumption | omega | decide)
local macro_rules | `(tactic| walk_at "hv") => `(tactic| (intro i hi; simp at hi; first | (subst hi; rfl) | (rcases hi with rfl | rfl <;> rfl) | (rcases hi with rfl | rfl | rfl <;> rfl)))
local macro_rules | `(tactic| walk_at "pr") => `(tactic| fail "no promise")
local macro_rules | `(tactic| walk_at "rv") => `(tactic| first
  | (with_reducible exact rv_add) | (with_reducible exact rv_sub) | (with_reducible exact rv_lt) | (with_reducible exact rv_le) | (with_reducible exact rv_gt) | (with_reducible exact rv_ge) | (with_reducible exact rv_eq) | (with_reducible exact rv_ne)
  | (with_reducible exact rv_is) | (with_reducible exact rv_isnot)
  | ((with_reducible apply rv_div); first | assumption | exact cdiv_small (by omega) (by omega))
  | ((with_reducible apply rv_mod); first | assumption | omega)
  | ((with_reducible apply rv_mul); first | assumption | exact cmul_left (by omega) | exact cmul_right (by omega))
  | ((with_reducible apply rv_mulW); assumption)
  | (with_reducible exact rv_p8) | (with_reducible exact rv_p18) | (with_reducible exact rv_p40) | (with_reducible exact rv_p20) | (with_reducible exact rv_p6) | (with_reducible exact rv_p7) | (with_reducible exact rv_p12) | (with_reducible exact rv_p25) | (with_reducible exact rv_p30) | (with_reducible exact rv_p39) | (with_reducible exact rv_p60)
  | ((with_reducible apply rv_ixxL); first | assumption | exact at_getD (by omega) (by omega) | exact at_nat rfl)
  | ((with_reducible apply rv_ixxT); first | assumption | exact at_getD (by omega) (by omega) | exact at_nat rfl)
  | ((with_reducible apply rv_ixxC); first | assumption)
  | (with_reducible exact ru_neg))
local macro_rules | `(tactic| walk_at "isi") => `(tactic| first | (with_reducible exact isi_non_int) | (with_reducible exact isi_non_bool) | (with_reducible exact isi_non_str) | (with_reducible exact isi_non_tuple) | (with_reducible exact isi_non_list) | (with_reducible exact isi_bl_int) | (with_reducible exact isi_bl_bool) | (with_reducible exact isi_bl_str) | (with_reducible exact isi_bl_tuple) | (with_reducible exact isi_bl_list) | (with_reducible exact isi_int_int) | (with_reducible exact isi_int_bool) | (with_reducible exact isi_int_str) | (with_reducible exact isi_int_tuple) | (with_reducible exact isi_int_list) | (with_reducible exact isi_str_int) | (with_reducible exact isi_str_bool) | (with_reducible exact isi_str_str) | (with_reducible exact isi_str_tuple) | (with_reducible exact isi_str_list) | (with_reducible exact isi_tup_int) | (with_reducible exact isi_tup_bool) | (with_reducible exact isi_tup_str) | (with_reducible exact isi_tup_tuple) | (with_reducible exact isi_tup_list) | (with_reducible exact isi_lst_int) | (with_reducible exact isi_lst_bool) | (with_reducible exact isi_lst_str) | (with_reducible exact isi_lst_tuple) | (with_reducible exact isi_lst_list))
local macro_rules | `(tactic| walk_at "rc") => `(tactic| first
  | walk_at "isi"
  | (with_reducible exact rc_len) | (with_reducible exact rc_lent) | (with_reducible exact rc_lenc) | (with_reducible exact rc_toint) | (with_reducible exact rc_absv) | (with_reducible exact rc_gcd)
  | ((with_reducible apply rc_lcm); assumption)
  | ((with_reducible apply rc_isi); (focus rfl); assumption)
  | (with_reducible exact rco_list) | (with_reducible exact rco_listT))
local macro_rules | `(tactic| walk_at "ev") => `(tactic| first
  | (with_reducible exact ev_int) | (with_reducible exact ev_bl) | (with_reducible exact ev_non) | (with_reducible exact ev_str) | (with_reducible exact ev_ty)
  | ((with_reducible apply ev_var); rfl)
  | ((with_reducible apply ev_lenOw); rfl)
  | ((with_reducible apply ev_op) <;> first | walk_at "ev" | walk_at "rv")
  | ((with_reducible apply ev_un) <;> first | walk_at "ev" | walk_at "rv")
  | ((with_reducible apply ev_cb) <;> first | walk_at "ev" | walk_at "rc")
  | ((with_reducible apply ev_call) <;> first | walk_at "ev" | walk_at "pr")
  | ((with_reducible apply ev_tup) <;> first | walk_at "ev" | (simp; done))
  | (with_reducible exact ea_nil)
  | ((with_reducible apply ea_cons) <;> walk_at "ev")
  | ((with_reducible apply et_test); walk_at "ev")
  | ((with_reducible apply et_B); walk_at "ev")
  | ((with_reducible apply et_not); walk_at "ev")
  | ((with_reducible apply et_or); (walk_at "ev"); intro _; walk_at "ev")
  | ((with_reducible apply et_and); (walk_at "ev"); intro _; walk_at "ev")
  | ((with_reducible apply ev_orV); (walk_at "ev"); intro _; walk_at "ev")
  | ((with_reducible apply ev_andV); (walk_at "ev"); intro _; walk_at "ev")
  | ((with_reducible apply ev_notV); walk_at "ev")
  | (with_reducible exact et_yes)
  | ((with_reducible apply evo_lst) <;> first | walk_at "ev" | (simp; done))
  | ((with_reducible apply ev_opO) <;> first | walk_at "ev" | ((with_reducible apply rvo_add); simp; omega))
  | ((with_reducible apply ev_cbO) <;> first | walk_at "ev" | walk_at "rc")
  | ((with_reducible apply ev_callO) <;> first | walk_at "ev" | walk_at "pr")
  | ((with_reducible apply ec_call) <;> first | walk_at "ev" | walk_at "pr")
  | ((with_reducible apply ec_tup) <;> first | walk_at "ev" | (simp; done))
  | ((with_reducible apply ec_lst) <;> first | walk_at "ev" | (simp; done))
  | (with_reducible exact eca_nil)
  | ((with_reducible apply eca_cons) <;> walk_at "ev")
  | ((with_reducible apply ec_sc); (walk_at "ev"); rfl)
  | ((with_reducible apply ec_ow); (walk_at "ev"); first | assumption | (intro d hd; simp at hd; done))
  | ((with_reducible apply ec_fz); walk_at "ev")
  | ((with_reducible apply ev_fz); walk_at "ev"))

local macro_rules | `(tactic| walk_at "im") => `(tactic| ((with_reducible apply wq_asg); walk_at "ev"; (try dsimp only [List.set, Int.reduceToNat])))
local macro_rules | `(tactic| walk_at "ow") => `(tactic| ((with_reducible apply wq_asgO); walk_at "ev"; (focus (first | decide | (simp; done))); (try dsimp only [List.set, Int.reduceToNat])))
local macro_rules | `(tactic| walk_at "cl") => `(tactic| ((with_reducible apply wq_asgC); walk_at "ev"; (focus (first | decide | (simp; done))); (try dsimp only [List.set, Int.reduceToNat])))
local macro_rules | `(tactic| walk_at "if") => `(tactic| ((first | (with_reducible apply wq_when) | (with_reducible apply wq_if) | (with_reducible apply ws_if)); walk_at "ev"; (try dsimp only [Int.reduceToNat])))
local macro_rules | `(tactic| walk_at "ret") => `(tactic| ((with_reducible apply ws_ret); walk_at "ev"))
local macro_rules | `(tactic| walk_at "go") => `(tactic| (try dsimp only [cxOf, L2.Cx.nox, L2.Cx.wish, L2.Cx.blk]))
local macro_rules | `(tactic| walk_at "ints") => `(tactic| (refine ev_fz (evo_lst ?_ (by decide)); repeat (first | exact ea_nil | refine ea_cons ev_int ?_)))

/-! ### _law_spoilt -/
theorem map_erase {α β : Type} (f : α → β) : ∀ (l : List α) (k : Nat), (l.eraseIdx k).map f = (l.map f).eraseIdx k
  | [], k => by simp
  | _ :: l, 0 => rfl
  | x :: l, k + 1 => by
    show f x :: (l.eraseIdx k).map f = f x :: (l.map f).eraseIdx k
    rw [map_erase f l k]
def szB : List Int := [20, 4, 3, 12, 2, 3, 12, 4, 4, 4, 4]
def spoiltL : List (List (List Int)) := [[[1, 1, 1, 1], [2, 1, 1, 2], [3, 1, 2, 1], [1, 2, 1, 3]], [[0], [2, 0], [0, 3], [1, 2, 0]], [[5], [1, 5], [5, 2], [2, 1, 5]], [[4, 4], [2, 4, 2], [3, 3, 2], [4, 1, 4]]]
theorem spoilt_ok : ∀ l ∈ spoiltL, l.length = 4 ∧ ∀ o ∈ l, (1 ≤ o.length ∧ o.length ≤ 4) ∧ (∀ m ∈ o, 0 ≤ m ∧ m ≤ 5) ∧ 0 ≤ prodI o ∧ prodI o ≤ 100 := by decide +kernel
section
variable {P : Program} {w : World} {K : PySem.W.Frag} {mg : Str → Option Value} {base : Heap} {C_Game C_Fault C_BadGame C_NoPerson C_NoWorld C_NoChoice : Addr}
def Some3 (cs : List Int) (pays : List (List Int)) : Prop := cs.length ≤ 1000 ∧ pays.length ≤ 1000
def P_spoilt : PrD := fun ds R _ => ∃ (cs : List Int) (pays : List (List Int)) (dr : List Int), ds = [intsD cs, rowsD pays, intsD dr] ∧ Fits cs pays ∧ dr.length = 11 ∧ (∀ i, i < 11 → 0 ≤ dr.getD i 0 ∧ dr.getD i 0 < szB.getD i 0) ∧ ∀ cs' pays', Some3 cs' pays' → R (.im (tabG cs' pays'))
theorem ok_spoilt (F : Df K mg "_law_spoilt" s_law_spoilt ["choices", "pays", "drawn"]) (gm : Gm K mg C_Game C_Fault C_BadGame C_NoPerson C_NoWorld C_NoChoice) : FnG P w K mg base CX0 1 "_law_spoilt" ["choices", "pays", "drawn"] (spD K P_spoilt) := by
  refine F.ok (k := 0) sc_law_spoilt (fun ds R Z ⟨a, b, c, e, _⟩ => by rw [e] <;> rfl) (fun f cdv A outer s H E hr => ?_)
  refine ⟨_,
    (pss_cons (sv 3 sc_law_spoilt.nd (ix K (pv 2) pe_int))
    (pss_cons (sv 4 sc_law_spoilt.nd (pe_op opMod (ct cInt gm.int (pa_cons (ix K (pv 2) pe_int) pa_nil)) (cb (kLen K) gm.len (pa_cons (pv 0) pa_nil))))
    (pss_cons (sv 5 sc_law_spoilt.nd (pe_op opMod (ct cInt gm.int (pa_cons (ix K (pv 2) pe_int) pa_nil)) (cb (kLen K) gm.len (pa_cons (ix K (pv 1) pe_int) pa_nil))))
    (pss_cons (ps_if (pt_cmpR (kEq K hr.units) (pv 3) pe_int (nomark _)) (pss_one (ps_ret (pe_lst (pa_cons (pe_lst pa_nil) (pa_cons (pe_lst pa_nil) pa_nil))))) pss_nil)
    (pss_cons (ps_if (pt_cmpR opLt (pv 3) pe_int (nomark _)) (pss_cons (sv 6 sc_law_spoilt.nd (pe_lst (pa_cons (pe_lst (pa_cons pe_int (pa_cons pe_int (pa_cons pe_int (pa_cons pe_int pa_nil))))) (pa_cons (pe_lst (pa_cons pe_int (pa_cons pe_int (pa_cons pe_int (pa_cons pe_int pa_nil))))) (pa_cons (pe_lst (pa_cons pe_int (pa_cons pe_int (pa_cons pe_int (pa_cons pe_int pa_nil))))) (pa_cons (pe_lst (pa_cons pe_int (pa_cons pe_int (pa_cons pe_int (pa_cons pe_int pa_nil))))) pa_nil)))))) (pss_cons (sv 7 sc_law_spoilt.nd (pe_lst (pa_cons (pe_lst (pa_cons pe_int pa_nil)) (pa_cons (pe_lst (pa_cons pe_int (pa_cons pe_int pa_nil))) (pa_cons (pe_lst (pa_cons pe_int (pa_cons pe_int pa_nil))) (pa_cons (pe_lst (pa_cons pe_int (pa_cons pe_int (pa_cons pe_int pa_nil)))) pa_nil)))))) (pss_cons (sv 8 sc_law_spoilt.nd (pe_lst (pa_cons (pe_lst (pa_cons pe_int pa_nil)) (pa_cons (pe_lst (pa_cons pe_int (pa_cons pe_int pa_nil))) (pa_cons (pe_lst (pa_cons pe_int (pa_cons pe_int pa_nil))) (pa_cons (pe_lst (pa_cons pe_int (pa_cons pe_int (pa_cons pe_int pa_nil)))) pa_nil)))))) (pss_cons (sv 9 sc_law_spoilt.nd (pe_lst (pa_cons (pe_lst (pa_cons pe_int (pa_cons pe_int pa_nil))) (pa_cons (pe_lst (pa_cons pe_int (pa_cons pe_int (pa_cons pe_int pa_nil)))) (pa_cons (pe_lst (pa_cons pe_int (pa_cons pe_int (pa_cons pe_int pa_nil)))) (pa_cons (pe_lst (pa_cons pe_int (pa_cons pe_int (pa_cons pe_int pa_nil)))) pa_nil)))))) (pss_cons (sv 10 sc_law_spoilt.nd (ix K (ix K (pe_lst (pa_cons (pv 6) (pa_cons (pv 7) (pa_cons (pv 8) (pa_cons (pv 9) pa_nil))))) (pe_op opSub (pv 3) pe_int)) (ix K (pv 2) pe_int))) (pss_cons (sv 11 sc_law_spoilt.nd pe_int) (pss_cons (ps_for PassesOwn.never rfl (pl K (pv 10)) (gn 12 sc_law_spoilt.nd) (pss_one (sv 11 sc_law_spoilt.nd (pe_op opMul (pv 11) (pv 12))))) (pss_one (ps_ret (pe_lst (pa_cons (ct (kList K) gm.list (pa_cons (pv 10) pa_nil)) (pa_cons (pe_lc (own := [("p", 13)]) rfl sc_law_spoilt.nd (pi_range1 (by rfl) gm.range (pa_cons (cb (kLen K) gm.len (pa_cons (pv 10) pa_nil)) pa_nil)) (blkOk_by (N := N_law_spoilt) (sc := defScope s_law_spoilt) (by decide +kernel)) (fun _ _ _ _ _ => (gn 13 sc_law_spoilt.nd)) (fun _ _ _ _ _ => pts_nil) (fun _ _ _ _ _ => (pe_lc (own := [("k", 14)]) rfl sc_law_spoilt.nd (pi_range1 (by rfl) gm.range (pa_cons (pv 11) pa_nil)) (blkOk_by (N := N_law_spoilt) (by kernel_rfl)) (fun _ _ _ _ _ => (gn 14 sc_law_spoilt.nd)) (fun _ _ _ _ _ => pts_nil) (fun _ _ _ _ _ => (pe_op opSub (pe_op opMod (ct cInt gm.int (pa_cons (pe_op (kAdd K) (pv 14) (pv 13)) pa_nil)) pe_int) pe_int))))) pa_nil)))))))))))) pss_nil)
    (pss_cons (ps_setLc (i := 15) (own := [("row", 16)]) rfl sc_law_spoilt.nd rfl rfl (sw_true rfl rfl rfl (by decide +kernel)) (pl K (pv 1)) (blkOk_by (N := N_law_spoilt) (sc := defScope s_law_spoilt) (by decide +kernel)) (fun _ _ _ _ _ => (gn 16 sc_law_spoilt.nd)) (fun _ _ _ _ _ => pts_nil) (fun _ _ _ _ _ => (ct (kList K) gm.list (pa_cons (pv 16) pa_nil))))
    (pss_cons (ps_if (pt_cmpR (kEq K hr.units) (pv 3) pe_int (nomark _)) (pss_one (ps_expr (pe_bm PySem.F.plainAttrs_list PySem.F.slot_list_pop PySem.F.type_list_pop mt_popAt (pv 15) (pa_cons (pv 4) pa_nil)))) (pss_one (ps_if (pt_cmpR (kEq K hr.units) (pv 3) pe_int (nomark _)) (pss_one (ps_expr (ml_append K (pv 15) (pa_cons (ct (kList K) gm.list (pa_cons (ix K (pv 1) (pv 4)) pa_nil)) pa_nil)))) (pss_one (ps_if (pt_cmpR (kEq K hr.units) (pv 3) pe_int (nomark _)) (pss_one (ps_expr (pe_bm0 PySem.F.plainAttrs_list PySem.F.slot_list_pop PySem.F.type_list_pop mt_pop (ix K (pv 15) (pv 4))))) (pss_one (ps_if (pt_cmpR (kEq K hr.units) (pv 3) pe_int (nomark _)) (pss_one (ps_expr (ml_append K (ix K (pv 15) (pv 4)) (pa_cons pe_int pa_nil)))) (pss_one (ps_if (pt_cmpR (kEq K hr.units) (pv 3) pe_int (nomark _)) (pss_one (ps_asg (ix K (pe_lst (pa_cons pe_int (pa_cons (pe_un unNeg pe_int) pa_nil))) (ix K (pv 2) pe_int)) (pg_sub (ix K (pv 15) (pv 4)) (pv 5) set_list))) (pss_one (ps_if (pt_cmpR opLt (pv 3) pe_int (nomark _)) (pss_one (ps_asg (ix K (pe_lst (pa_cons pe_int (pa_cons (pe_un unNeg pe_int) pa_nil))) (ix K (pv 2) pe_int)) (pg_sub (ix K (pv 15) (pv 4)) (pv 5) set_list))) pss_nil)))))))))))
    (pss_one (ps_ret (pe_lst (pa_cons (ct (kList K) gm.list (pa_cons (pv 0) pa_nil)) (pa_cons (pv 15) pa_nil)))))))))))), fun ds R Z p => ?_⟩
  obtain ⟨cs, pays, dr, rfl, hf, hdl, hdb, p⟩ := p
  refine ws_to (ρ' := [.im (intsD cs), .im (rowsD pays), .im (intsD dr), .no, .no, .no, .no, .no, .no, .no, .no, .no, .no, .no, .no, .no, .no]) rfl ?_
  walk_at "go"
  have hat : ∀ i : Nat, i < 11 → atI (dr.map D.int) (i : Int) = some (.int (dr.getD i 0)) := fun i hi => at_ints (by omega)
  have b0 := hdb 0 (by decide)
  have b1 := hdb 1 (by decide)
  have b4 := hdb 4 (by decide)
  rw [show szB.getD 0 0 = 20 from rfl] at b0
  rw [show szB.getD 1 0 = 4 from rfl] at b1
  rw [show szB.getD 4 0 = 2 from rfl] at b4
  have hcl := hf.1.1
  have hpl := hf.2.1
  have hpos := fit_pos hf.1
  have h12 := hf.1.2.2
  obtain ⟨row0, hrow0⟩ : ∃ r, pays[0]? = some r := ⟨_, List.getElem?_eq_getElem (by omega)⟩
  have hr0l := (hf.2.2 row0 (List.mem_of_getElem? hrow0)).1
  refine wq_asg (d := .int (dr.getD 0 0)) (ev_op (ev_var rfl) ev_int (rv_ixxL (hat 0 (by decide)))) ?_
  dsimp only [List.set]
  refine wq_asg (d := .int (dr.getD 2 0 % cs.length)) (ev_op (ev_cb (ea_cons (ev_op (ev_var rfl) ev_int (rv_ixxL (hat 2 (by decide)))) ea_nil) rc_toint) ((ev_cb (ea_cons (ev_var rfl) ea_nil) rc_len).is (by rw [List.length_map])) (rv_mod (by omega))) ?_
  dsimp only [List.set]
  refine wq_asg (d := .int (dr.getD 3 0 % prodI cs)) (ev_op (ev_cb (ea_cons (ev_op (ev_var rfl) ev_int (rv_ixxL (hat 3 (by decide)))) ea_nil) rc_toint) ((ev_cb (ea_cons (ev_op (ev_var rfl) ev_int (rv_ixxL (at_map (f := intsD) (k := 0) hrow0))) ea_nil) rc_len).is (by rw [List.length_map, hr0l])) (rv_mod (by omega))) ?_
  dsimp only [List.set]
  have ep : dr.getD 2 0 % cs.length = (((dr.getD 2 0 % cs.length).toNat : Nat) : Int) := by
    have := Int.emod_nonneg (dr.getD 2 0) (b := (cs.length : Int)) (by omega)
    omega
  have hp : (dr.getD 2 0 % cs.length).toNat < cs.length := by
    have := Int.emod_lt_of_pos (dr.getD 2 0) (b := (cs.length : Int)) (by omega)
    have := Int.emod_nonneg (dr.getD 2 0) (b := (cs.length : Int)) (by omega)
    omega
  have eo : dr.getD 3 0 % prodI cs = (((dr.getD 3 0 % prodI cs).toNat : Nat) : Int) := by
    have := Int.emod_nonneg (dr.getD 3 0) (b := prodI cs) (by omega)
    omega
  have ho : ((dr.getD 3 0 % prodI cs).toNat : Int) < prodI cs := by
    have := Int.emod_lt_of_pos (dr.getD 3 0) (b := prodI cs) (by omega)
    omega
  rw [ep, eo]
  generalize (dr.getD 2 0 % cs.length).toNat = q at hp
  generalize (dr.getD 3 0 % prodI cs).toNat = o at ho
  generalize hk : dr.getD 0 0 = kind at b0
  refine wq_when (et_test (ev_op (ev_var rfl) ev_int rv_eq)) (fun hb => ?_) (fun hb => ?_)
  · exact ws_ret (ev_fz (evo_lst (ea_cons (ev_fz (evo_lst ea_nil (by simp))) (ea_cons (ev_fz (evo_lst ea_nil (by simp))) ea_nil)) (by simp))) (p [] [] ⟨by simp, by simp⟩)
  have hk0 : ¬ kind = 0 := of_decide_eq_false hb
  refine wq_when (et_test (ev_op (ev_var rfl) ev_int rv_lt)) (fun hb => ?_) (fun hb => ?_)
  · have hk5 : kind < 5 := of_decide_eq_true hb
    walk_at "im"
    walk_at "im"
    walk_at "im"
    walk_at "im"
    have ek : kind - 1 = (((kind - 1).toNat : Nat) : Int) := by omega
    have e1 : dr.getD 1 0 = (((dr.getD 1 0).toNat : Nat) : Int) := by omega
    have hks : (kind - 1).toNat < spoiltL.length := by show _ < 4; omega
    obtain ⟨hl4, hso⟩ := spoilt_ok spoiltL[(kind - 1).toNat] (List.getElem_mem _)
    have hos : (dr.getD 1 0).toNat < spoiltL[(kind - 1).toNat].length := by omega
    obtain ⟨ho1, ho2, ho3, ho4⟩ := hso spoiltL[(kind - 1).toNat][(dr.getD 1 0).toNat] (List.getElem_mem _)
    have ha1 : atI (spoiltL.map rowsD) (kind - 1) = some (rowsD spoiltL[(kind - 1).toNat]) := by
      have := at_f (f := rowsD) hks
      rwa [← ek] at this
    have ha2 : atI (spoiltL[(kind - 1).toNat].map intsD) (dr.getD 1 0) = some (intsD spoiltL[(kind - 1).toNat][(dr.getD 1 0).toNat]) := by
      have := at_f (f := intsD) hos
      rwa [← e1] at this
    refine wq_asg (d := intsD spoiltL[(kind - 1).toNat][(dr.getD 1 0).toNat]) (ev_op (ev_op (ev_fz (evo_lst (ds := spoiltL.map rowsD) (ea_cons (ev_var rfl) (ea_cons (ev_var rfl) (ea_cons (ev_var rfl) (ea_cons (ev_var rfl) ea_nil)))) (by decide))) (ev_op (ev_var rfl) ev_int rv_sub) (rv_ixxL ha1)) (ev_op (ev_var rfl) ev_int (rv_ixxL (hat 1 (by decide)))) (rv_ixxL ha2)) ?_
    dsimp only [List.set]
    generalize spoiltL[(kind - 1).toNat][(dr.getD 1 0).toNat] = other at ho1 ho2 ho3 ho4
    walk_at "im"
    refine wq_forL (xs := other) (enc := .int) (ev_var rfl) (fun i u => ∃ s12, u = [(11, .im (.int (prodI (other.take i)))), (12, s12)]) ⟨_, ⟨_, rfl⟩, rfl⟩ ?_ ?_
    · rintro i m u hm ⟨s12, rfl⟩
      dsimp only [up, List.set]
      have hmb := ho2 m (List.mem_of_getElem? hm)
      exact ws_asg (d := .int (prodI (other.take (i + 1)))) ((ev_op (ev_var rfl) (ev_var rfl) (rv_mul (cmul_right (by omega)))).is (by rw [prodI_take hm])) ⟨_, ⟨.im (.int m), rfl⟩, rfl⟩
    rintro u ⟨s12, rfl⟩
    dsimp only [up, List.set]
    rw [List.take_length]
    have em : prodI other = (((prodI other).toNat : Nat) : Int) := by omega
    refine ws_ret (d := tabG other ((List.range other.length).map fun p : Nat => (List.range (prodI other).toNat).map fun k : Nat => ((k : Int) + (p : Int)) % 5 - 2)) ((ev_fz (evo_lst (ea_cons (ev_fz (ev_cbO (ea_cons (ev_var rfl) ea_nil) rco_list)) (ea_cons (ev_fz (lc_N (n := other.length) (fun p => intsD ((List.range (prodI other).toNat).map fun k : Nat => ((k : Int) + (p : Int)) % 5 - 2)) (ea_cons ((ev_cb (ea_cons (ev_var rfl) ea_nil) rc_len).is (by rw [List.length_map])) ea_nil) rfl (fun p hp => ?_) (by omega))) ea_nil)) (by simp))).is ?_) (p _ _ ⟨by omega, by rw [List.length_map, List.length_range]; omega⟩)
    · dsimp only [List.set]
      refine ((ev_fz (lc_N (n := (prodI other).toNat) (fun k => D.int (((k : Int) + (p : Int)) % 5 - 2)) (ea_cons ((ev_var rfl).is (by rw [← em])) ea_nil) rfl (fun k hk => ?_) (by omega))).is ?_)
      · dsimp only [List.set]
        exact ev_op (ev_op (ev_cb (ea_cons (ev_op (ev_var rfl) (ev_var rfl) rv_add) ea_nil) rc_toint) ev_int (rv_mod (by omega))) ev_int rv_sub
      · rw [intsD, List.map_map]
        rfl
    · rw [tabG, rowsD, List.map_map]
      rfl
  have hk5 : ¬ kind < 5 := of_decide_eq_false hb
  refine wq_asgC (d := rowsD pays) (lc_LC (xs := pays) (enc := intsD) intsD (ev_var rfl) rfl (fun r hr => ec_ow (ev_cbO (ea_cons (ev_var rfl) ea_nil) rco_list) (scal_ints _)) (by omega)) (by simp) ?_
  dsimp only [List.set]
  have hq : q < pays.length := by omega
  have hgq : pays[q]? = some pays[q] := List.getElem?_eq_getElem hq
  have hrq := (hf.2.2 pays[q] (List.getElem_mem hq)).1
  have hoq : o < pays[q].length := by omega
  have hdq : D.at [q] (rowsD pays) = some (intsD pays[q]) := by
    show ((pays.map intsD)[q]?).bind _ = _
    rw [List.getElem?_map, hgq]
    rfl
  have hput : ∀ r : List Int, D.put [q] (rowsD pays) (intsD r) = rowsD (pays.set q r) := fun r => by
    show D.lst _ = D.lst _
    rw [modify_set (fun d => D.put [] d (intsD r)) (show (pays.map intsD)[q]? = some (intsD pays[q]) by rw [List.getElem?_map, hgq] <;> rfl), List.map_set]
    rfl
  have hixq : ixN (pays.map intsD).length (q : Int) = some q := by
    rw [List.length_map]
    unfold ixN
    rw [if_pos (by omega), if_pos (by omega), Int.toNat_natCast]
  refine ws_mid (fun ρ' => ∃ rows, rows.length ≤ 1000 ∧ ρ'[0]? = some (.im (intsD cs)) ∧ ρ'[15]? = some (.cl (rowsD rows))) ?_ ?_
  · have fin : ∀ rows : List (List Int), rows.length ≤ 1000 → ∀ ρ : Rho, ρ[0]? = some (.im (intsD cs)) → ρ[15]? = some (.cl (rowsD rows)) → ∃ rows, rows.length ≤ 1000 ∧ ρ[0]? = some (.im (intsD cs)) ∧ ρ[15]? = some (.cl (rowsD rows)) := fun rows h ρ a b => ⟨rows, h, a, b⟩
    refine ws_if (et_test (ev_op (ev_var rfl) ev_int rv_eq)) (fun _ => ?_) (fun _ => ?_)
    · refine ws_popAtP (k := q) rfl (el_var rfl) rfl (ev_var rfl) (by rw [List.length_map]; omega) (by omega) (fin (pays.eraseIdx q) (by have := List.length_eraseIdx_le pays q; omega) _ rfl ?_)
      show some (Sl.cl (D.lst _)) = _
      rw [rowsD, map_erase]
    refine ws_if (et_test (ev_op (ev_var rfl) ev_int rv_eq)) (fun _ => ?_) (fun _ => ?_)
    · refine ws_appP rfl (el_var rfl) rfl (ec_ow (ev_cbO (ea_cons (ev_op (ev_var rfl) (ev_var rfl) (rv_ixxL (at_f (f := intsD) hq))) ea_nil) rco_list) (scal_ints _)) (by rw [List.length_map]; omega) (fin (pays ++ [pays[q]]) (by rw [List.length_append]; simp; omega) _ rfl ?_)
      show some (Sl.cl (D.lst _)) = _
      rw [rowsD, List.map_append]
      first | done | rfl
    refine ws_if (et_test (ev_op (ev_var rfl) ev_int rv_eq)) (fun _ => ?_) (fun _ => ?_)
    · refine ws_popP (l := pays[q].map .int) rfl (el_ix rfl (el_var rfl) rfl (ev_var rfl) hixq) hdq (by rw [List.length_map]; omega) (fin (pays.set q pays[q].dropLast) (by rw [List.length_set]; omega) _ rfl ?_)
      have e := hput pays[q].dropLast
      rw [intsD, List.map_dropLast] at e
      exact congrArg (fun d => some (Sl.cl d)) e
    refine ws_if (et_test (ev_op (ev_var rfl) ev_int rv_eq)) (fun _ => ?_) (fun _ => ?_)
    · refine ws_appP (l := pays[q].map .int) rfl (el_ix rfl (el_var rfl) rfl (ev_var rfl) hixq) hdq (ec_sc ev_int rfl) (by rw [List.length_map]; omega) (fin (pays.set q (pays[q] ++ [0])) (by rw [List.length_set]; omega) _ rfl ?_)
      have e := hput (pays[q] ++ [0])
      rw [intsD, List.map_append] at e
      exact congrArg (fun d => some (Sl.cl d)) e
    have hset : ∀ a b : Int, ∃ v, atI [D.int a, D.int b] (dr.getD 4 0) = some (.int v) := fun a b => by
      have : dr.getD 4 0 = 0 ∨ dr.getD 4 0 = 1 := by omega
      rcases this with h | h <;> rw [h]
      · exact ⟨a, rfl⟩
      · exact ⟨b, rfl⟩
    have hixo : ixN (pays[q].map D.int).length (o : Int) = some o := by
      rw [List.length_map]
      unfold ixN
      rw [if_pos (by omega), if_pos (by omega), Int.toNat_natCast]
    have hgo : (pays[q].map D.int)[o]? = some (.int pays[q][o]) := by rw [List.getElem?_map, List.getElem?_eq_getElem hoq] <;> rfl
    refine ws_if (et_test (ev_op (ev_var rfl) ev_int rv_eq)) (fun _ => ?_) (fun _ => ?_)
    · obtain ⟨v, hv⟩ := hset 100 (-100)
      refine ws_setP (l := pays[q].map .int) (x := .int v) rfl (ec_sc (ev_op (ev_fz (evo_lst (ea_cons ev_int (ea_cons (ev_un ev_int ru_neg) ea_nil)) (by simp))) (ev_op (ev_var rfl) ev_int (rv_ixxL (hat 4 (by decide)))) (rv_ixxL hv)) rfl) (el_ix rfl (el_var rfl) rfl (ev_var rfl) hixq) hdq (ev_var rfl) hixo hgo (fin (pays.set q (pays[q].set o v)) (by rw [List.length_set]; omega) _ rfl ?_)
      have e := hput (pays[q].set o v)
      rw [intsD, List.map_set] at e
      exact congrArg (fun d => some (Sl.cl d)) e
    refine ws_if (et_test (ev_op (ev_var rfl) ev_int rv_lt)) (fun _ => ?_) (fun _ => ?_)
    · obtain ⟨v, hv⟩ := hset 99 (-99)
      refine ws_setP (l := pays[q].map .int) (x := .int v) rfl (ec_sc (ev_op (ev_fz (evo_lst (ea_cons ev_int (ea_cons (ev_un ev_int ru_neg) ea_nil)) (by simp))) (ev_op (ev_var rfl) ev_int (rv_ixxL (hat 4 (by decide)))) (rv_ixxL hv)) rfl) (el_ix rfl (el_var rfl) rfl (ev_var rfl) hixq) hdq (ev_var rfl) hixo hgo (fin (pays.set q (pays[q].set o v)) (by rw [List.length_set]; omega) _ rfl ?_)
      have e := hput (pays[q].set o v)
      rw [intsD, List.map_set] at e
      exact congrArg (fun d => some (Sl.cl d)) e
    · exact ws_next (fin pays (by omega) _ rfl rfl)
  · rintro ρ' ⟨rows, hrl, h0, h15⟩
    refine ws_fzC h15 ?_
    have hl15 : 15 < ρ'.length := (List.getElem?_eq_some_iff.mp h15).1
    have g0 : (ρ'.set 15 (.im (rowsD rows)))[0]? = some (.im (intsD cs)) := by rw [List.getElem?_set_ne (by decide)]; exact h0
    have g15 : (ρ'.set 15 (.im (rowsD rows)))[15]? = some (.im (rowsD rows)) := by rw [List.getElem?_set_self hl15]
    exact ws_ret (ev_fz (evo_lst (ea_cons (ev_fz (ev_cbO (ea_cons (ev_var g0) ea_nil) rco_list)) (ea_cons (ev_var g15) ea_nil)) (by simp))) (p cs rows ⟨by omega, hrl⟩)
end
end FS
set_option Elab.async false
set_option linter.all false
set_option maxRecDepth 100000
set_option maxHeartbeats 4000000
set_option exponentiation.threshold 20000
namespace FS
open PySem PySem.Spec PyProof.Rows L2

local macro_rules | `(tactic| walk_at "side") => `(tactic| first | assumption | omega | decide)
local macro_rules | `(tactic| walk_at "hv") => `(tactic| (intro i hi; simp at hi; first | (subst hi; rfl) | (rcases hi with rfl | rfl <;> rfl) | (rcases hi with rfl | rfl | rfl <;> rfl)))
local macro_rules | `(tactic| walk_at "pr") => `(tactic| fail "no promise")
local macro_rules | `(tactic| walk_at "rv") => `(tactic| first
  | (with_reducible exact rv_add) | (with_reducible exact rv_sub) | (with_reducible exact rv_lt) | (with_reducible exact rv_le) | (with_reducible exact rv_gt) | (with_reducible exact rv_ge) | (with_reducible exact rv_eq) | (with_reducible exact rv_ne)
  | (with_reducible exact rv_is) | (with_reducible exact rv_isnot)
  | ((with_reducible apply rv_div); first | assumption | exact cdiv_small (by omega) (by omega))
  | ((with_reducible apply rv_mod); first | assumption | omega)
  | ((with_reducible apply rv_mul); first | assumption | exact cmul_left (by omega) | exact cmul_right (by omega))
  | ((with_reducible apply rv_mulW); assumption)
  | (with_reducible exact rv_p8) | (with_reducible exact rv_p18) | (with_reducible exact rv_p40) | (with_reducible exact rv_p20) | (with_reducible exact rv_p6) | (with_reducible exact rv_p7) | (with_reducible exact rv_p12) | (with_reducible exact rv_p25) | (with_reducible exact rv_p30) | (with_reducible exact rv_p39) | (with_reducible exact rv_p60)
  | ((with_reducible apply rv_ixxL); first | assumption | exact at_getD (by omega) (by omega) | exact at_nat rfl)
  | ((with_reducible apply rv_ixxT); first | assumption | exact at_getD (by omega) (by omega) | exact at_nat rfl)
  | ((with_reducible apply rv_ixxC); first | assumption)
  | (with_reducible exact ru_neg))
local macro_rules | `(tactic| walk_at "isi") => `(tactic| first | (with_reducible exact isi_non_int) | (with_reducible exact isi_non_bool) | (with_reducible exact isi_non_str) | (with_reducible exact isi_non_tuple) | (with_reducible exact isi_non_list) | (with_reducible exact isi_bl_int) | (with_reducible exact isi_bl_bool) | (with_reducible exact isi_bl_str) | (with_reducible exact isi_bl_tuple) | (with_reducible exact isi_bl_list) | (with_reducible exact isi_int_int) | (with_reducible exact isi_int_bool) | (with_reducible exact isi_int_str) | (with_reducible exact isi_int_tuple) | (with_reducible exact isi_int_list) | (with_reducible exact isi_str_int) | (with_reducible exact isi_str_bool) | (with_reducible exact isi_str_str) | (with_reducible exact isi_str_tuple) | (with_reducible exact isi_str_list) | (with_reducible exact isi_tup_int) | (with_reducible exact isi_tup_bool) | (with_reducible exact isi_tup_str) | (with_reducible exact isi_tup_tuple) | (with_reducible exact isi_tup_list) | (with_reducible exact isi_lst_int) | (with_reducible exact isi_lst_bool) | (with_reducible exact isi_lst_str) | (with_reducible exact isi_lst_tuple) | (with_reducible exact isi_lst_list))
local macro_rules | `(tactic| walk_at "rc") => `(tactic| first
  | walk_at "isi"
  | (with_reducible exact rc_len) | (with_reducible exact rc_lent) | (with_reducible exact rc_lenc) | (with_reducible exact rc_toint) | (with_reducible exact rc_absv) | (with_reducible exact rc_gcd)
  | ((with_reducible apply rc_lcm); assumption)
  | ((with_reducible apply rc_isi); (focus rfl); assumption)
  | (with_reducible exact rco_list) | (with_reducible exact rco_listT))
local macro_rules | `(tactic| walk_at "ev") => `(tactic| first
  | (with_reducible exact ev_int) | (with_reducible exact ev_bl) | (with_reducible exact ev_non) | (with_reducible exact ev_str) | (with_reducible exact ev_ty)
  | ((with_reducible apply ev_var); rfl)
  | ((with_reducible apply ev_lenOw); rfl)
  | ((with_reducible apply ev_op) <;> first | walk_at "ev" | walk_at "rv")
  | ((with_reducible apply ev_un) <;> first | walk_at "ev" | walk_at "rv")
  | ((with_reducible apply ev_cb) <;> first | walk_at "ev" | walk_at "rc")
  | ((with_reducible apply ev_call) <;> first | walk_at "ev" | walk_at "pr")
  | ((with_reducible apply ev_tup) <;> first | walk_at "ev" | (simp; done))
  | (with_reducible exact ea_nil)
  | ((with_reducible apply ea_cons) <;> walk_at "ev")
  | ((with_reducible apply et_test); walk_at "ev")
  | ((with_reducible apply et_B); walk_at "ev")
  | ((with_reducible apply et_not); walk_at "ev")
  | ((with_reducible apply et_or); (walk_at "ev"); intro _; walk_at "ev")
  | ((with_reducible apply et_and); (walk_at "ev"); intro _; walk_at "ev")
  | ((with_reducible apply ev_orV); (walk_at "ev"); intro _; walk_at "ev")
  | ((with_reducible apply ev_andV); (walk_at "ev"); intro _; walk_at "ev")
  | ((with_reducible apply ev_notV); walk_at "ev")
  | (with_reducible exact et_yes)
  | ((with_reducible apply evo_lst) <;> first | walk_at "ev" | (simp; done))
  | ((with_reducible apply ev_opO) <;> first | walk_at "ev" | ((with_reducible apply rvo_add); simp; omega))
  | ((with_reducible apply ev_cbO) <;> first | walk_at "ev" | walk_at "rc")
  | ((with_reducible apply ev_callO) <;> first | walk_at "ev" | walk_at "pr")
  | ((with_reducible apply ec_call) <;> first | walk_at "ev" | walk_at "pr")
  | ((with_reducible apply ec_tup) <;> first | walk_at "ev" | (simp; done))
  | ((with_reducible apply ec_lst) <;> first | walk_at "ev" | (simp; done))
  | (with_reducible exact eca_nil)
  | ((with_reducible apply eca_cons) <;> walk_at "ev")
  | ((with_reducible apply ec_sc); (walk_at "ev"); rfl)
  | ((with_reducible apply ec_ow); (walk_at "ev"); first | assumption | (intro d hd; simp at hd; done))
  | ((with_reducible apply ec_fz); walk_at "ev")
  | ((with_reducible apply ev_fz); walk_at "ev"))

local macro_rules | `(tactic| walk_at "im") => `(tactic| ((with_reducible apply wq_asg); walk_at "ev"; (try dsimp only [List.set, Int.reduceToNat])))
local macro_rules | `(tactic| walk_at "ow") => `(tactic| ((with_reducible apply wq_asgO); walk_at "ev"; (focus (first | decide | (simp; done))); (try dsimp only [List.set, Int.reduceToNat])))
local macro_rules | `(tactic| walk_at "cl") => `(tactic| ((with_reducible apply wq_asgC); walk_at "ev"; (focus (first | decide | (simp; done))); (try dsimp only [List.set, Int.reduceToNat])))
local macro_rules | `(tactic| walk_at "if") => `(tactic| ((first | (with_reducible apply wq_when) | (with_reducible apply wq_if) | (with_reducible apply ws_if)); walk_at "ev"; (try dsimp only [Int.reduceToNat])))
local macro_rules | `(tactic| walk_at "ret") => `(tactic| ((with_reducible apply ws_ret); walk_at "ev"))
local macro_rules | `(tactic| walk_at "go") => `(tactic| (try dsimp only [cxOf, L2.Cx.nox, L2.Cx.wish, L2.Cx.blk]))
local macro_rules | `(tactic| walk_at "ints") => `(tactic| (refine ev_fz (evo_lst ?_ (by decide)); repeat (first | exact ea_nil | refine ea_cons ev_int ?_)))

theorem py_ints : ∀ l : List Int, D.pyL (l.map D.int) = l.map PyData.int
  | [] => rfl
  | x :: l => by rw [List.map_cons, List.map_cons, D.pyL, py_ints l] <;> rfl
theorem eqv_ints : ∀ a b : List Int, PyData.eqvAll (a.map PyData.int) (b.map PyData.int) = decide (a = b)
  | [], [] => rfl
  | [], _ :: _ => rfl
  | _ :: _, [] => rfl
  | x :: a, y :: b => by
    rw [List.map_cons, List.map_cons, PyData.eqvAll, eqv_ints a b]
    show ((x == y) && decide (a = b)) = decide (x :: a = y :: b)
    by_cases h : x = y
    · subst h
      simp
    · have : (x == y) = false := by simpa using h
      rw [this]
      simp [h]
theorem flat_intsD (l : List Int) : D.flat 1 (intsD l) = true := by
  unfold intsD
  rw [D.flat, flatL_iff]
  intro d hd
  obtain ⟨x, _, rfl⟩ := List.mem_map.mp hd
  rfl
theorem eqv_intsD (a b : List Int) : PyData.eqv (intsD a).py (intsD b).py = decide (a = b) := by
  show PyData.eqv (.list (D.pyL (a.map D.int))) (.list (D.pyL (b.map D.int))) = _
  rw [py_ints, py_ints, PyData.eqv, eqv_ints]
theorem rv_eqInts {K : PySem.W.Frag} {a b : List Int} : RvD K (rEqA K) (intsD a) (intsD b) (.bl (decide (a = b))) := by
  have h := rv_eqD (K := K) (flat_intsD a) (flat_intsD b) (by decide)
  rw [eqv_intsD] at h
  exact h
theorem rv_neInts {K : PySem.W.Frag} {a b : List Int} : RvD K (rNeA K) (intsD a) (intsD b) (.bl (!decide (a = b))) := by
  have h := rv_neD (K := K) (flat_intsD a) (flat_intsD b) (by decide)
  rw [eqv_intsD] at h
  exact h
theorem nats_inj {a b : List Nat} : nats a = nats b ↔ a = b := by
  unfold nats
  refine ⟨fun h => ?_, fun h => by rw [h]⟩
  have : (a.map fun n : Nat => (n : Int)).map Int.toNat = (b.map fun n : Nat => (n : Int)).map Int.toNat := by rw [h]
  rw [List.map_map, List.map_map] at this
  have e : (Int.toNat ∘ fun n : Nat => (n : Int)) = id := by
    funext n
    exact Int.toNat_natCast n
  rw [e, List.map_id, List.map_id] at this
  exact this

/-- a try: its body, its suite -/
def tTry (K : PySem.W.Frag) (c : Value) (i : Nat) (tb : WX → TS) (ts : Addr → Value → Option Addr → TS) (Wout : WX) : TS := fun Dn σ H => tb (wAs K c i ts Wout Dn) Dn σ H
theorem ps_tryN {X : Cx} {x n : Str} {c : Value} {i : Nat} {body suite : List Stmt} {b₀ : Stmt} {np pos pos' : Pos} {tb : WX → TS} {ts : Addr → Value → Option Addr → TS} {Wout : WX}
    (hs : X.stack = X.env :: X.outer) (hf : X.env.frame = some X.env.locals) (hN : X.N.Nodup) (hi : X.N[i]? = some n) (hln : X.env.kindOf n = some .local) (hc : Names X x c) (tk : L2N.Takes X Wout)
    (hb : ∀ (W : WX) (pn : List (Addr × Obj)) (xe : Value → Shared → Prop), L2N.Takes (X.tr pn xe) W → PassesOwn (model X.prog X.w) X.A X.env xe → PSs (X.tr pn xe) body (tb W))
    (hsu : ∀ (a : Addr) (oe : Obj) (cls : Value) (d : Option Addr) (pn : List (Addr × Obj)), L2N.Zn cls d oe → (∃ vs, oe.data = .fields vs) → PSs (X.suite a ((a, oe) :: pn)) (b₀ :: suite) (ts a cls d)) :
    PS X (.Try body [.ExceptHandler (some (.Name x np)) (some n) (b₀ :: suite) pos'] [] [] pos) (tTry X.K c i tb ts Wout) := L2N.ps_try_as hs hf hN hi hln hc tk hb hsu
theorem ws_tryN {K : PySem.W.Frag} {E : L2.WX} {ρ : Rho} {P : Pst} {i : Nat} {tb : WX → TS} {ts : Addr → Value → Option Addr → TS} {c : Value} {Wout : WX} {Pc : Rho → Exn → Prop} (hb : ∀ W, Ws K W (tb W) ρ { P with ex := Pc })
    (hc : ∀ ρ' z, Pc ρ' z → PySem.W.exmOne K z.1 c = some true ∧ ∀ a od, Ws K E (ts a z.1 od) (ρ'.set i (.im (.exc a od z.2.1 z.2.2))) { nx := fun ρ2 => P.nx (ρ2.set i .no), rt := P.rt, bk := fun ρ2 => P.bk (ρ2.set i .no), ct := fun ρ2 => P.ct (ρ2.set i .no) }) :
    Ws K E (tTry K c i tb ts Wout) ρ P := ws_tryA hb hc

/-! ### _law_made -/
theorem flat_rows (l : List (List Int)) : D.flat 2 (rowsD l) = true := by
  unfold rowsD
  rw [D.flat, flatL_iff]
  intro d hd
  obtain ⟨x, _, rfl⟩ := List.mem_map.mp hd
  exact flat_intsD x
section
variable {P : Program} {w : World} {K : PySem.W.Frag} {mg : Str → Option Value} {base : Heap} {C_Game C_Fault C_BadGame C_NoPerson C_NoWorld C_NoChoice : Addr}
def madeD (C : Addr) (cs : List Int) (pays : List (List Int)) : D := .lst [.str "made", gameD C ⟨cs, pays⟩]
def P_made (C : Addr) : PrD := fun ds R _ => ∃ (cs : List Int) (pays : List (List Int)), ds = [intsD cs, rowsD pays] ∧ Some3 cs pays ∧ (Fits cs pays → R (.cl (madeD C cs pays))) ∧ (¬ Fits cs pays → R (.cl (.lst [.str "BadGame"])))
theorem ok_made (F : Df K mg "_law_made" s_law_made ["choices", "pays"]) (gm : Gm K mg C_Game C_Fault C_BadGame C_NoPerson C_NoWorld C_NoChoice) (G_Game : FnI P w K mg base (L2N.CX P w) 2 C_Game "Game" ["self", "choices", "pays"] (spMk K C_Game (P_game C_Game C_BadGame))) : FnG P w K mg base CX0 4 "_law_made" ["choices", "pays"] (spD K (P_made C_Game)) := by
  refine F.ok (k := 3) sc_law_made (fun ds R Z ⟨a, b, e, _⟩ => by rw [e] <;> rfl) (fun f cdv A outer s H E hr => ?_)
  refine ⟨_,
    (pss_cons (sv 2 sc_law_made.nd (pe_lst (pa_cons (ct (kList K) gm.list (pa_cons (pv 0) pa_nil)) (pa_cons (pe_lc (own := [("row", 3)]) rfl sc_law_made.nd (pl K (pv 1)) (blkOk_by (N := N_law_made) (sc := defScope s_law_made) (by decide +kernel)) (fun _ _ _ _ _ => (gn 3 sc_law_made.nd)) (fun _ _ _ _ _ => pts_nil) (fun _ _ _ _ _ => (ct (kList K) gm.list (pa_cons (pv 3) pa_nil)))) pa_nil))))
    (pss_cons (sv 4 sc_law_made.nd (pe_lst (pa_cons pe_str pa_nil)))
    (pss_cons (ps_tryN (i := 5) rfl rfl sc_law_made.nd rfl rfl ⟨rfl, by decide, .inl gm.Fault_v⟩ takesN0 (fun W pn xe tk pw => (pss_one (sv 4 sc_law_made.nd (pe_lst (pa_cons pe_str (pa_cons (pe_mkX G_Game hr.le tk (pa_cons (pv 0) (pa_cons (pv 1) pa_nil))) pa_nil)))))) (fun a oe cls d pn hz hf => (pss_cons (sv 6 sc_law_made.nd (pe_lst (pa_cons (cb (kIsX K List.mem_cons_self hz hf) gm.isinstance (pa_cons (pv 5) (pa_cons (gc gm.NoPerson_v) pa_nil))) (pa_cons (cb (kIsX K List.mem_cons_self hz hf) gm.isinstance (pa_cons (pv 5) (pa_cons (gc gm.NoWorld_v) pa_nil))) (pa_cons (cb (kIsX K List.mem_cons_self hz hf) gm.isinstance (pa_cons (pv 5) (pa_cons (gc gm.NoChoice_v) pa_nil))) pa_nil))))) (pss_one (ps_if (PW.pt (pw_and (pt_val (cb (kIsX K List.mem_cons_self hz hf) gm.isinstance (pa_cons (pv 5) (pa_cons (gc gm.BadGame_v) pa_nil)))) (pw_and (pt_val (cb (kIsX K List.mem_cons_self hz hf) gm.isinstance (pa_cons (pv 5) (pa_cons (pe_bltn (v := .ty "ValueError") (by rfl) gm.ValueError (by decide +kernel) rfl) pa_nil)))) (pw_and1 (pt_cmpR (kEq K hr.units) (pv 6) (pe_lst (pa_cons pe_bl (pa_cons pe_bl (pa_cons pe_bl pa_nil)))) (nomark _)))))) (pss_one (sv 4 sc_law_made.nd (pe_lst (pa_cons pe_str pa_nil)))) pss_nil)))))
    (pss_cons (ps_if (PW.pt (pw_or (pt_cmpR (kNe K hr.units) (pv 0) (ix K (pv 2) pe_int) (nomark _)) (pw_or1 (pt_cmpR (kNe K hr.units) (pv 1) (ix K (pv 2) pe_int) (nomark _))))) (pss_one (ps_ret (pe_lst (pa_cons pe_str pa_nil)))) pss_nil)
    (pss_one (ps_ret (pv 4))))))), fun ds R Z p => ?_⟩
  obtain ⟨cs, pays, rfl, hl, p1, p2⟩ := p
  refine ws_to (ρ' := [.im (intsD cs), .im (rowsD pays), .no, .no, .no, .no, .no]) rfl ?_
  walk_at "go"
  refine wq_asg (d := tabG cs pays) (ev_fz (evo_lst (ea_cons (ev_fz (ev_cbO (ea_cons (ev_var rfl) ea_nil) rco_list)) (ea_cons (ev_fz (lc_L (xs := pays) (enc := intsD) intsD (ev_var rfl) rfl (fun r hr => ev_fz (ev_cbO (ea_cons (ev_var rfl) ea_nil) rco_list)) (by have := hl.2; omega))) ea_nil)) (by simp))) ?_
  dsimp only [List.set]
  refine wq_asg (d := .lst [.str "other"]) (by walk_at "ev") ?_
  dsimp only [List.set]
  refine ws_seq (ws_tryN (Pc := fun ρ' z => ¬ Fits cs pays ∧ ρ' = [.im (intsD cs), .im (rowsD pays), .im (tabG cs pays), .no, .im (.lst [.str "other"]), .no, .no] ∧ z = xBadGame C_BadGame) (fun W => ?_) ?_)
  · by_cases hf : Fits cs pays
    · refine ws_asgC (d := madeD C_Game cs pays) (ec_lst (eca_cons (ec_sc ev_str rfl) (eca_cons (ec_mkX (ea_cons (ev_var rfl) (ea_cons (ev_var rfl) ea_nil)) ⟨cs, pays, rfl, hl.1, fun _ => rfl, fun h => absurd hf h⟩) eca_nil)) (by simp)) (by simp) ?_
      dsimp only [List.set]
      refine wq_noif (et_or (et_test (ev_op (ev_var rfl) (ev_op (ev_var rfl) ev_int (rv_ixxL (at_nat (j := 0) rfl))) (rv_neDD (flat_intsD cs) (by decide)))) fun _ => et_test (ev_op (ev_var rfl) (ev_op (ev_var rfl) ev_int (rv_ixxL (at_nat (j := 1) rfl))) (rv_neDD (flat_rows pays) (by decide)))) rfl ?_
      exact ws_retVc rfl (p1 hf)
    · exact ws_asgZ (ez_lst (eza_next ev_str (eza_here (ez_mkX (ea_cons (ev_var rfl) (ea_cons (ev_var rfl) ea_nil)) ⟨cs, pays, rfl, hl.1, fun h => absurd h hf, fun _ => rfl⟩)))) ⟨hf, rfl, rfl⟩
  · rintro ρ' z ⟨hf, rfl, rfl⟩
    refine ⟨gm.BadGame_m, fun a od => ?_⟩
    dsimp only [xBadGame, List.set]
    refine wq_asg (d := .lst [.bl false, .bl false, .bl false]) (ev_fz (evo_lst (ea_cons (ev_isX rfl ev_obj rfl gm.BadGame_e gm.kit_BadGame_NoPerson) (ea_cons (ev_isX rfl ev_obj rfl gm.BadGame_e gm.kit_BadGame_NoWorld) (ea_cons (ev_isX rfl ev_obj rfl gm.BadGame_e gm.kit_BadGame_NoChoice) ea_nil))) (by simp))) ?_
    dsimp only [List.set]
    refine ws_ifT (et_and (et_B (ev_isX rfl ev_obj rfl gm.BadGame_e gm.kit_BadGame_BadGame)) fun _ => et_and (et_B (ev_isX rfl ev_ty rfl gm.BadGame_e gm.kit_BadGame_VE)) fun _ => et_test (ev_op (ev_var rfl) (ev_fz (evo_lst (ea_cons ev_bl (ea_cons ev_bl (ea_cons ev_bl ea_nil))) (by simp))) (rv_eqDD (n := 1) rfl (by decide)))) rfl ?_
    refine ws_asgC (d := .lst [.str "BadGame"]) (ec_lst (eca_cons (ec_sc ev_str rfl) eca_nil) (by simp)) (by simp) ?_
    dsimp only [List.set]
    refine wq_noif (et_or (et_test (ev_op (ev_var rfl) (ev_op (ev_var rfl) ev_int (rv_ixxL (at_nat (j := 0) rfl))) (rv_neDD (flat_intsD cs) (by decide)))) fun _ => et_test (ev_op (ev_var rfl) (ev_op (ev_var rfl) ev_int (rv_ixxL (at_nat (j := 1) rfl))) (rv_neDD (flat_rows pays) (by decide)))) rfl ?_
    exact ws_retVc rfl (p2 hf)
end
end FS
set_option Elab.async false
set_option linter.all false
set_option maxRecDepth 100000
set_option maxHeartbeats 4000000
set_option exponentiation.threshold 20000
namespace FS
open PySem PySem.Spec PyProof.Rows L2

local macro_rules | `(tactic| walk_at "side") => `(tactic| first | assumption | omega | decide)
local macro_rules | `(tactic| walk_at "hv") => `(tactic| (intro i hi; simp at hi; first | (subst hi; rfl) | (rcases hi with rfl | rfl <;> rfl) | (rcases hi with rfl | rfl | rfl <;> rfl)))
local macro_rules | `(tactic| walk_at "pr") => `(tactic| fail "no promise")
local macro_rules | `(tactic| walk_at "rv") => `(tactic| first
  | (with_reducible exact rv_add) | (with_reducible exact rv_sub) | (with_reducible exact rv_lt) | (with_reducible exact rv_le) | (with_reducible exact rv_gt) | (with_reducible exact rv_ge) | (with_reducible exact rv_eq) | (with_reducible exact rv_ne)
  | (with_reducible exact rv_is) | (with_reducible exact rv_isnot)
  | ((with_reducible apply rv_div); first | assumption | exact cdiv_small (by omega) (by omega))
  | ((with_reducible apply rv_mod); first | assumption | omega)
  | ((with_reducible apply rv_mul); first | assumption | exact cmul_left (by omega) | exact cmul_right (by omega))
  | ((with_reducible apply rv_mulW); assumption)
  | (with_reducible exact rv_p8) | (with_reducible exact rv_p18) | (with_reducible exact rv_p40) | (with_reducible exact rv_p20) | (with_reducible exact rv_p6) | (with_reducible exact rv_p7) | (with_reducible exact rv_p12) | (with_reducible exact rv_p25) | (with_reducible exact rv_p30) | (with_reducible exact rv_p39) | (with_reducible exact rv_p60)
  | ((with_reducible apply rv_ixxL); first | assumption | exact at_getD (by omega) (by omega) | exact at_nat rfl)
  | ((with_reducible apply rv_ixxT); first | assumption | exact at_getD (by omega) (by omega) | exact at_nat rfl)
  | ((with_reducible apply rv_ixxC); first | assumption)
  | (with_reducible exact ru_neg))
local macro_rules | `(tactic| walk_at "isi") => `(tactic| first | (with_reducible exact isi_non_int) | (with_reducible exact isi_non_bool) | (with_reducible exact isi_non_str) | (with_reducible exact isi_non_tuple) | (with_reducible exact isi_non_list) | (with_reducible exact isi_bl_int) | (with_reducible exact isi_bl_bool) | (with_reducible exact isi_bl_str) | (with_reducible exact isi_bl_tuple) | (with_reducible exact isi_bl_list) | (with_reducible exact isi_int_int) | (with_reducible exact isi_int_bool) | (with_reducible exact isi_int_str) | (with_reducible exact isi_int_tuple) | (with_reducible exact isi_int_list) | (with_reducible exact isi_str_int) | (with_reducible exact isi_str_bool) | (with_reducible exact isi_str_str) | (with_reducible exact isi_str_tuple) | (with_reducible exact isi_str_list) | (with_reducible exact isi_tup_int) | (with_reducible exact isi_tup_bool) | (with_reducible exact isi_tup_str) | (with_reducible exact isi_tup_tuple) | (with_reducible exact isi_tup_list) | (with_reducible exact isi_lst_int) | (with_reducible exact isi_lst_bool) | (with_reducible exact isi_lst_str) | (with_reducible exact isi_lst_tuple) | (with_reducible exact isi_lst_list))
local macro_rules | `(tactic| walk_at "rc") => `(tactic| first
  | walk_at "isi"
  | (with_reducible exact rc_len) | (with_reducible exact rc_lent) | (with_reducible exact rc_lenc) | (with_reducible exact rc_toint) | (with_reducible exact rc_absv) | (with_reducible exact rc_gcd)
  | ((with_reducible apply rc_lcm); assumption)
  | ((with_reducible apply rc_isi); (focus rfl); assumption)
  | (with_reducible exact rco_list) | (with_reducible exact rco_listT))
local macro_rules | `(tactic| walk_at "ev") => `(tactic| first
  | (with_reducible exact ev_int) | (with_reducible exact ev_bl) | (with_reducible exact ev_non) | (with_reducible exact ev_str) | (with_reducible exact ev_ty)
  | ((with_reducible apply ev_var); rfl)
  | ((with_reducible apply ev_lenOw); rfl)
  | ((with_reducible apply ev_op) <;> first | walk_at "ev" | walk_at "rv")
  | ((with_reducible apply ev_un) <;> first | walk_at "ev" | walk_at "rv")
  | ((with_reducible apply ev_cb) <;> first | walk_at "ev" | walk_at "rc")
  | ((with_reducible apply ev_call) <;> first | walk_at "ev" | walk_at "pr")
  | ((with_reducible apply ev_tup) <;> first | walk_at "ev" | (simp; done))
  | (with_reducible exact ea_nil)
  | ((with_reducible apply ea_cons) <;> walk_at "ev")
  | ((with_reducible apply et_test); walk_at "ev")
  | ((with_reducible apply et_B); walk_at "ev")
  | ((with_reducible apply et_not); walk_at "ev")
  | ((with_reducible apply et_or); (walk_at "ev"); intro _; walk_at "ev")
  | ((with_reducible apply et_and); (walk_at "ev"); intro _; walk_at "ev")
  | ((with_reducible apply ev_orV); (walk_at "ev"); intro _; walk_at "ev")
  | ((with_reducible apply ev_andV); (walk_at "ev"); intro _; walk_at "ev")
  | ((with_reducible apply ev_notV); walk_at "ev")
  | (with_reducible exact et_yes)
  | ((with_reducible apply evo_lst) <;> first | walk_at "ev" | (simp; done))
  | ((with_reducible apply ev_opO) <;> first | walk_at "ev" | ((with_reducible apply rvo_add); simp; omega))
  | ((with_reducible apply ev_cbO) <;> first | walk_at "ev" | walk_at "rc")
  | ((with_reducible apply ev_callO) <;> first | walk_at "ev" | walk_at "pr")
  | ((with_reducible apply ec_call) <;> first | walk_at "ev" | walk_at "pr")
  | ((with_reducible apply ec_tup) <;> first | walk_at "ev" | (simp; done))
  | ((with_reducible apply ec_lst) <;> first | walk_at "ev" | (simp; done))
  | (with_reducible exact eca_nil)
  | ((with_reducible apply eca_cons) <;> walk_at "ev")
  | ((with_reducible apply ec_sc); (walk_at "ev"); rfl)
  | ((with_reducible apply ec_ow); (walk_at "ev"); first | assumption | (intro d hd; simp at hd; done))
  | ((with_reducible apply ec_fz); walk_at "ev")
  | ((with_reducible apply ev_fz); walk_at "ev"))

local macro_rules | `(tactic| walk_at "im") => `(tactic| ((with_reducible apply wq_asg); walk_at "ev"; (try dsimp only [List.set, Int.reduceToNat])))
local macro_rules | `(tactic| walk_at "ow") => `(tactic| ((with_reducible apply wq_asgO); walk_at "ev"; (focus (first | decide | (simp; done))); (try dsimp only [List.set, Int.reduceToNat])))
local macro_rules | `(tactic| walk_at "cl") => `(tactic| ((with_reducible apply wq_asgC); walk_at "ev"; (focus (first | decide | (simp; done))); (try dsimp only [List.set, Int.reduceToNat])))
local macro_rules | `(tactic| walk_at "if") => `(tactic| ((first | (with_reducible apply wq_when) | (with_reducible apply wq_if) | (with_reducible apply ws_if)); walk_at "ev"; (try dsimp only [Int.reduceToNat])))
local macro_rules | `(tactic| walk_at "ret") => `(tactic| ((with_reducible apply ws_ret); walk_at "ev"))
local macro_rules | `(tactic| walk_at "go") => `(tactic| (try dsimp only [cxOf, L2.Cx.nox, L2.Cx.wish, L2.Cx.blk]))
local macro_rules | `(tactic| walk_at "ints") => `(tactic| (refine ev_fz (evo_lst ?_ (by decide)); repeat (first | exact ea_nil | refine ea_cons ev_int ?_)))

/-! ### _law_rows -/
def stepR (rows : List (List Int)) (m : Int) : List (List Int) := rows.flatMap fun row => (List.range m.toNat).map fun c : Nat => row ++ [(c : Int)]
def rowsOf (cs : List Int) : List (List Int) := cs.foldl stepR [[]]
theorem rows_take {cs : List Int} {i : Nat} {m : Int} (h : cs[i]? = some m) : rowsOf (cs.take (i + 1)) = stepR (rowsOf (cs.take i)) m := by
  unfold rowsOf
  rw [List.take_add_one, h, List.foldl_append]
  rfl
def sizeR (cs : List Int) : Bool := (List.range 4).all fun i => decide ((rowsOf (cs.take i)).length ≤ 64) && (rowsOf (cs.take i)).all fun r => decide (r.length ≤ 3)
theorem sizeR_all : ∀ cs ∈ allC, sizeR cs = true := by decide +kernel
theorem rows_size {cs : List Int} (h : FitC cs) {i : Nat} (hi : i < 4) : (rowsOf (cs.take i)).length ≤ 64 ∧ ∀ r ∈ rowsOf (cs.take i), r.length ≤ 3 := by
  have := List.all_eq_true.mp (sizeR_all cs (fit_all h)) i (List.mem_range.mpr hi)
  simpa using this
section
variable {P : Program} {w : World} {K : PySem.W.Frag} {mg : Str → Option Value} {base : Heap} {C_Game C_Fault C_BadGame C_NoPerson C_NoWorld C_NoChoice : Addr}
def P_rows : PrD := fun ds R _ => ∃ cs : List Int, ds = [intsD cs] ∧ FitC cs ∧ R (.im (rowsD (rowsOf cs)))
theorem ok_rows (F : Df K mg "_law_rows" s_law_rows ["choices"]) (gm : Gm K mg C_Game C_Fault C_BadGame C_NoPerson C_NoWorld C_NoChoice) : FnG P w K mg base CX0 1 "_law_rows" ["choices"] (spD K P_rows) := by
  refine F.ok (k := 0) sc_law_rows (fun ds R Z ⟨a, e, _⟩ => by rw [e] <;> rfl) (fun f cdv A outer s H E hr => ?_)
  refine ⟨_,
    (pss_cons (sv 1 sc_law_rows.nd (pe_lst (pa_cons (pe_lst pa_nil) pa_nil)))
    (pss_cons (ps_for PassesOwn.never rfl (pl K (pv 0)) (gn 2 sc_law_rows.nd) (pss_cons (sv 3 sc_law_rows.nd (pe_lst pa_nil)) (pss_cons (ps_for PassesOwn.never rfl (pl K (pv 1)) (gn 4 sc_law_rows.nd) (pss_one (sv 3 sc_law_rows.nd (pe_op (kAdd K) (pv 3) (pe_lc (own := [("choice", 5)]) rfl sc_law_rows.nd (pi_range1 (by rfl) gm.range (pa_cons (pv 2) pa_nil)) (blkOk_by (N := N_law_rows) (sc := defScope s_law_rows) (by decide +kernel)) (fun _ _ _ _ _ => (gn 5 sc_law_rows.nd)) (fun _ _ _ _ _ => pts_nil) (fun _ _ _ _ _ => (pe_op (kAdd K) (pv 4) (pe_lst (pa_cons (pv 5) pa_nil))))))))) (pss_one (sv 1 sc_law_rows.nd (pv 3))))))
    (pss_one (ps_ret (pv 1))))), fun ds R Z p => ?_⟩
  obtain ⟨cs, rfl, hf, p⟩ := p
  refine ws_to (ρ' := [.im (intsD cs), .no, .no, .no, .no, .no]) rfl ?_
  walk_at "go"
  refine wq_asg (d := rowsD [[]]) (ev_fz (evo_lst (ea_cons (ev_fz (evo_lst ea_nil (by simp))) ea_nil) (by simp))) ?_
  dsimp only [List.set]
  refine wq_forL (xs := cs) (enc := .int) (ev_var rfl) (fun i u => ∃ s2 s3 s4, u = [(1, .im (rowsD (rowsOf (cs.take i)))), (2, s2), (3, s3), (4, s4)]) ⟨_, ⟨_, _, _, rfl⟩, rfl⟩ ?_ ?_
  · rintro i m u hm ⟨s2, s3, s4, rfl⟩
    dsimp only [up, List.set]
    have hi : i < cs.length := (List.getElem?_eq_some_iff.mp hm).1
    have hmb := hf.2.1 m (List.mem_of_getElem? hm)
    have hcl := hf.1
    obtain ⟨z1, z2⟩ := rows_size hf (i := i) (by omega)
    have est := rows_take hm
    generalize rowsOf (cs.take i) = rows at z1 z2 est
    refine wq_asg (d := rowsD []) (ev_fz (evo_lst ea_nil (by simp))) ?_
    dsimp only [List.set]
    refine wq_forL (xs := rows) (enc := intsD) (ev_var rfl) (fun j u => ∃ s4, u = [(3, .im (rowsD (stepR (rows.take j) m))), (4, s4)] ∧ (stepR (rows.take j) m).length ≤ 4 * j) ⟨_, ⟨_, rfl, by simp [stepR]⟩, rfl⟩ ?_ ?_
    · rintro j row u hrow ⟨s4, rfl, hlen⟩
      dsimp only [up, List.set]
      have hj : j < rows.length := (List.getElem?_eq_some_iff.mp hrow).1
      have hrl := z2 row (List.mem_of_getElem? hrow)
      have e1 : stepR (rows.take (j + 1)) m = stepR (rows.take j) m ++ (List.range m.toNat).map fun c : Nat => row ++ [(c : Int)] := by
        rw [List.take_add_one, hrow]
        simp [stepR]
      have em : m = ((m.toNat : Nat) : Int) := by omega
      refine ws_asg (d := rowsD (stepR (rows.take (j + 1)) m)) ((ev_fz (ev_opO (ev_var rfl) (ev_fz (lc_N (n := m.toNat) (fun c => intsD (row ++ [(c : Int)])) (ea_cons ((ev_var rfl).is (by rw [← em])) ea_nil) rfl (fun c hc => ?_) (by omega))) (rvo_add (by rw [List.length_map, List.length_map, List.length_range]; omega)))).is ?_) ⟨_, ⟨_, rfl, ?_⟩, rfl⟩
      · dsimp only [List.set]
        exact (ev_fz (ev_opO (ev_var rfl) (ev_fz (evo_lst (ea_cons (ev_var rfl) ea_nil) (by simp))) (rvo_add (by rw [List.length_map]; simp; omega)))).is (by rw [intsD_app] <;> rfl)
      · rw [e1, rowsD, List.map_append, List.map_map]
        rfl
      · rw [e1, List.length_append, List.length_map, List.length_range]
        omega
    · rintro u ⟨s4, rfl, _⟩
      dsimp only [up, List.set]
      rw [List.take_length, ← est]
      exact ws_asg (ev_var rfl) ⟨_, ⟨_, _, _, rfl⟩, rfl⟩
  · rintro u ⟨s2, s3, s4, rfl⟩
    dsimp only [up, List.set]
    rw [List.take_length]
    exact ws_ret (ev_var rfl) p
end
end FS
set_option Elab.async false
set_option linter.all false
set_option maxRecDepth 100000
set_option maxHeartbeats 4000000
set_option exponentiation.threshold 20000
namespace FS
open PySem PySem.Spec PyProof.Rows L2

local macro_rules | `(tactic| walk_at "side") => `(tactic| first | assumption | omega | decide)
local macro_rules | `(tactic| walk_at "hv") => `(tactic| (intro i hi; simp at hi; first | (subst hi; rfl) | (rcases hi with rfl | rfl <;> rfl) | (rcases hi with rfl | rfl | rfl <;> rfl)))
local macro_rules | `(tactic| walk_at "pr") => `(tactic| fail "no promise")
local macro_rules | `(tactic| walk_at "rv") => `(tactic| first
  | (with_reducible exact rv_add) | (with_reducible exact rv_sub) | (with_reducible exact rv_lt) | (with_reducible exact rv_le) | (with_reducible exact rv_gt) | (with_reducible exact rv_ge) | (with_reducible exact rv_eq) | (with_reducible exact rv_ne)
  | (with_reducible exact rv_is) | (with_reducible exact rv_isnot)
  | ((with_reducible apply rv_div); first | assumption | exact cdiv_small (by omega) (by omega))
  | ((with_reducible apply rv_mod); first | assumption | omega)
  | ((with_reducible apply rv_mul); first | assumption | exact cmul_left (by omega) | exact cmul_right (by omega))
  | ((with_reducible apply rv_mulW); assumption)
  | (with_reducible exact rv_p8) | (with_reducible exact rv_p18) | (with_reducible exact rv_p40) | (with_reducible exact rv_p20) | (with_reducible exact rv_p6) | (with_reducible exact rv_p7) | (with_reducible exact rv_p12) | (with_reducible exact rv_p25) | (with_reducible exact rv_p30) | (with_reducible exact rv_p39) | (with_reducible exact rv_p60)
  | ((with_reducible apply rv_ixxL); first | assumption | exact at_getD (by omega) (by omega) | exact at_nat rfl)
  | ((with_reducible apply rv_ixxT); first | assumption | exact at_getD (by omega) (by omega) | exact at_nat rfl)
  | ((with_reducible apply rv_ixxC); first | assumption)
  | (with_reducible exact ru_neg))
local macro_rules | `(tactic| walk_at "isi") => `(tactic| first | (with_reducible exact isi_non_int) | (with_reducible exact isi_non_bool) | (with_reducible exact isi_non_str) | (with_reducible exact isi_non_tuple) | (with_reducible exact isi_non_list) | (with_reducible exact isi_bl_int) | (with_reducible exact isi_bl_bool) | (with_reducible exact isi_bl_str) | (with_reducible exact isi_bl_tuple) | (with_reducible exact isi_bl_list) | (with_reducible exact isi_int_int) | (with_reducible exact isi_int_bool) | (with_reducible exact isi_int_str) | (with_reducible exact isi_int_tuple) | (with_reducible exact isi_int_list) | (with_reducible exact isi_str_int) | (with_reducible exact isi_str_bool) | (with_reducible exact isi_str_str) | (with_reducible exact isi_str_tuple) | (with_reducible exact isi_str_list) | (with_reducible exact isi_tup_int) | (with_reducible exact isi_tup_bool) | (with_reducible exact isi_tup_str) | (with_reducible exact isi_tup_tuple) | (with_reducible exact isi_tup_list) | (with_reducible exact isi_lst_int) | (with_reducible exact isi_lst_bool) | (with_reducible exact isi_lst_str) | (with_reducible exact isi_lst_tuple) | (with_reducible exact isi_lst_list))
local macro_rules | `(tactic| walk_at "rc") => `(tactic| first
  | walk_at "isi"
  | (with_reducible exact rc_len) | (with_reducible exact rc_lent) | (with_reducible exact rc_lenc) | (with_reducible exact rc_toint) | (with_reducible exact rc_absv) | (with_reducible exact rc_gcd)
  | ((with_reducible apply rc_lcm); assumption)
  | ((with_reducible apply rc_isi); (focus rfl); assumption)
  | (with_reducible exact rco_list) | (with_reducible exact rco_listT))
local macro_rules | `(tactic| walk_at "ev") => `(tactic| first
  | (with_reducible exact ev_int) | (with_reducible exact ev_bl) | (with_reducible exact ev_non) | (with_reducible exact ev_str) | (with_reducible exact ev_ty)
  | ((with_reducible apply ev_var); rfl)
  | ((with_reducible apply ev_lenOw); rfl)
  | ((with_reducible apply ev_op) <;> first | walk_at "ev" | walk_at "rv")
  | ((with_reducible apply ev_un) <;> first | walk_at "ev" | walk_at "rv")
  | ((with_reducible apply ev_cb) <;> first | walk_at "ev" | walk_at "rc")
  | ((with_reducible apply ev_call) <;> first | walk_at "ev" | walk_at "pr")
  | ((with_reducible apply ev_tup) <;> first | walk_at "ev" | (simp; done))
  | (with_reducible exact ea_nil)
  | ((with_reducible apply ea_cons) <;> walk_at "ev")
  | ((with_reducible apply et_test); walk_at "ev")
  | ((with_reducible apply et_B); walk_at "ev")
  | ((with_reducible apply et_not); walk_at "ev")
  | ((with_reducible apply et_or); (walk_at "ev"); intro _; walk_at "ev")
  | ((with_reducible apply et_and); (walk_at "ev"); intro _; walk_at "ev")
  | ((with_reducible apply ev_orV); (walk_at "ev"); intro _; walk_at "ev")
  | ((with_reducible apply ev_andV); (walk_at "ev"); intro _; walk_at "ev")
  | ((with_reducible apply ev_notV); walk_at "ev")
  | (with_reducible exact et_yes)
  | ((with_reducible apply evo_lst) <;> first | walk_at "ev" | (simp; done))
  | ((with_reducible apply ev_opO) <;> first | walk_at "ev" | ((with_reducible apply rvo_add); simp; omega))
  | ((with_reducible apply ev_cbO) <;> first | walk_at "ev" | walk_at "rc")
  | ((with_reducible apply ev_callO) <;> first | walk_at "ev" | walk_at "pr")
  | ((with_reducible apply ec_call) <;> first | walk_at "ev" | walk_at "pr")
  | ((with_reducible apply ec_tup) <;> first | walk_at "ev" | (simp; done))
  | ((with_reducible apply ec_lst) <;> first | walk_at "ev" | (simp; done))
  | (with_reducible exact eca_nil)
  | ((with_reducible apply eca_cons) <;> walk_at "ev")
  | ((with_reducible apply ec_sc); (walk_at "ev"); rfl)
  | ((with_reducible apply ec_ow); (walk_at "ev"); first | assumption | (intro d hd; simp at hd; done))
  | ((with_reducible apply ec_fz); walk_at "ev")
  | ((with_reducible apply ev_fz); walk_at "ev"))

local macro_rules | `(tactic| walk_at "im") => `(tactic| ((with_reducible apply wq_asg); walk_at "ev"; (try dsimp only [List.set, Int.reduceToNat])))
local macro_rules | `(tactic| walk_at "ow") => `(tactic| ((with_reducible apply wq_asgO); walk_at "ev"; (focus (first | decide | (simp; done))); (try dsimp only [List.set, Int.reduceToNat])))
local macro_rules | `(tactic| walk_at "cl") => `(tactic| ((with_reducible apply wq_asgC); walk_at "ev"; (focus (first | decide | (simp; done))); (try dsimp only [List.set, Int.reduceToNat])))
local macro_rules | `(tactic| walk_at "if") => `(tactic| ((first | (with_reducible apply wq_when) | (with_reducible apply wq_if) | (with_reducible apply ws_if)); walk_at "ev"; (try dsimp only [Int.reduceToNat])))
local macro_rules | `(tactic| walk_at "ret") => `(tactic| ((with_reducible apply ws_ret); walk_at "ev"))
local macro_rules | `(tactic| walk_at "go") => `(tactic| (try dsimp only [cxOf, L2.Cx.nox, L2.Cx.wish, L2.Cx.blk]))
local macro_rules | `(tactic| walk_at "ints") => `(tactic| (refine ev_fz (evo_lst ?_ (by decide)); repeat (first | exact ea_nil | refine ea_cons ev_int ?_)))

section
variable {P : Program} {w : World} {K : PySem.W.Frag} {mg : Str → Option Value} {base : Heap} {C_Game C_Fault C_BadGame C_NoPerson C_NoWorld C_NoChoice : Addr}
/-! ### _law_equal -/
def P_equal : PrD := fun ds R _ => ∃ (s : Str) (z : Int), ds = [.lst [.str s, .int z], .lst [.str s, .int z]] ∧ R (.im (.bl true))
theorem ok_equal (F : Df K mg "_law_equal" s_law_equal ["answer", "due"]) (gm : Gm K mg C_Game C_Fault C_BadGame C_NoPerson C_NoWorld C_NoChoice) (G_law_same : FnG P w K mg base CX0 3 "_law_same" ["actual", "due"] (spD K (P_same' 3))) : FnG P w K mg base CX0 4 "_law_equal" ["answer", "due"] (spD K P_equal) := by
  refine F.ok (k := 3) sc_law_equal (fun ds R Z ⟨a, b, e, _⟩ => by rw [e] <;> rfl) (fun f cdv A outer s H E hr => ?_)
  refine ⟨_,
    (pss_cons (ps_if (PW.pt (pw_or (pt_cmpR (kNe K hr.units) (ix K (pv 0) pe_int) (ix K (pv 1) pe_int) (nomark _)) (pw_or1 (pt_cmpR (kNe K hr.units) (cb (kLen K) gm.len (pa_cons (pv 0) pa_nil)) (cb (kLen K) gm.len (pa_cons (pv 1) pa_nil)) (nomark _))))) (pss_one (ps_ret pe_bl)) pss_nil)
    (pss_cons (ps_for PassesOwn.never rfl (pi_range2 (by rfl) gm.range (pa_cons pe_int (pa_cons (cb (kLen K) gm.len (pa_cons (pv 1) pa_nil)) pa_nil))) (gn 2 sc_law_equal.nd) (pss_one (ps_if (pt_not (pt_val (pe_g G_law_same hr.le pass0 (pa_cons (ix K (pv 0) (pv 2)) (pa_cons (ix K (pv 1) (pv 2)) pa_nil))))) (pss_one (ps_ret pe_bl)) pss_nil)))
    (pss_one (ps_ret pe_bl)))), fun ds R Z p => ?_⟩
  obtain ⟨t, z, rfl, p⟩ := p
  refine ws_to (ρ' := [.im (.lst [.str t, .int z]), .im (.lst [.str t, .int z]), .no]) rfl ?_
  walk_at "go"
  refine wq_noif (et_or (et_test (ev_op (ev_op (ev_var rfl) ev_int (rv_ixxL (at_nat (j := 0) rfl))) (ev_op (ev_var rfl) ev_int (rv_ixxL (at_nat (j := 0) rfl))) rv_neStr)) fun _ => et_test (ev_op (ev_cb (ea_cons (ev_var rfl) ea_nil) rc_len) (ev_cb (ea_cons (ev_var rfl) ea_nil) rc_len) rv_ne)) (by simp) ?_
  refine wq_for (src_rng2 (lo := 1) (n := 2) (ea_cons ev_int (ea_cons (ev_cb (ea_cons (ev_var rfl) ea_nil) rc_len) ea_nil)) (by decide)) (fun i ρ' => ∃ s2, ρ' = [.im (.lst [.str t, .int z]), .im (.lst [.str t, .int z]), s2]) ⟨.no, rfl⟩ ?_ ?_
  · rintro i d ρ' hd ⟨s2, rfl⟩
    obtain ⟨hi, rfl⟩ := rng_get hd
    have hi : i = 0 := by
      have : i < 1 := hi
      omega
    subst hi
    refine ⟨_, gd_name, ?_⟩
    dsimp only [setD, List.set]
    refine ws_ifF (et_not (et_B (ev_call (ea_cons (ev_op (ev_var rfl) (ev_var rfl) (rv_ixxL (d := .int z) (at_nat (j := 1) rfl))) (ea_cons (ev_op (ev_var rfl) (ev_var rfl) (rv_ixxL (d := .int z) (at_nat (j := 1) rfl))) ea_nil)) (pr_same (n := 2) (by rfl))))) rfl ?_
    exact ws_next ⟨_, rfl⟩
  · rintro ρ' ⟨s2, rfl⟩
    exact ws_ret ev_bl p
end
end FS
set_option Elab.async false
set_option linter.all false
set_option maxRecDepth 100000
set_option maxHeartbeats 4000000
set_option exponentiation.threshold 20000
namespace FS
open PySem PySem.Spec PyProof.Rows L2

local macro_rules | `(tactic| walk_at "side") => `(tactic| first | assumption | omega | decide)
local macro_rules | `(tactic| walk_at "hv") => `(tactic| (intro i hi; simp at hi; first | (subst hi; rfl) | (rcases hi with rfl | rfl <;> rfl) | (rcases hi with rfl | rfl | rfl <;> rfl)))
local macro_rules | `(tactic| walk_at "pr") => `(tactic| fail "no promise")
local macro_rules | `(tactic| walk_at "rv") => `(tactic| first
  | (with_reducible exact rv_add) | (with_reducible exact rv_sub) | (with_reducible exact rv_lt) | (with_reducible exact rv_le) | (with_reducible exact rv_gt) | (with_reducible exact rv_ge) | (with_reducible exact rv_eq) | (with_reducible exact rv_ne)
  | (with_reducible exact rv_is) | (with_reducible exact rv_isnot)
  | ((with_reducible apply rv_div); first | assumption | exact cdiv_small (by omega) (by omega))
  | ((with_reducible apply rv_mod); first | assumption | omega)
  | ((with_reducible apply rv_mul); first | assumption | exact cmul_left (by omega) | exact cmul_right (by omega))
  | ((with_reducible apply rv_mulW); assumption)
  | (with_reducible exact rv_p8) | (with_reducible exact rv_p18) | (with_reducible exact rv_p40) | (with_reducible exact rv_p20) | (with_reducible exact rv_p6) | (with_reducible exact rv_p7) | (with_reducible exact rv_p12) | (with_reducible exact rv_p25) | (with_reducible exact rv_p30) | (with_reducible exact rv_p39) | (with_reducible exact rv_p60)
  | ((with_reducible apply rv_ixxL); first | assumption | exact at_getD (by omega) (by omega) | exact at_nat rfl)
  | ((with_reducible apply rv_ixxT); first | assumption | exact at_getD (by omega) (by omega) | exact at_nat rfl)
  | ((with_reducible apply rv_ixxC); first | assumption)
  | (with_reducible exact ru_neg))
local macro_rules | `(tactic| walk_at "isi") => `(tactic| first | (with_reducible exact isi_non_int) | (with_reducible exact isi_non_bool) | (with_reducible exact isi_non_str) | (with_reducible exact isi_non_tuple) | (with_reducible exact isi_non_list) | (with_reducible exact isi_bl_int) | (with_reducible exact isi_bl_bool) | (with_reducible exact isi_bl_str) | (with_reducible exact isi_bl_tuple) | (with_reducible exact isi_bl_list) | (with_reducible exact isi_int_int) | (with_reducible exact isi_int_bool) | (with_reducible exact isi_int_str) | (with_reducible exact isi_int_tuple) | (with_reducible exact isi_int_list) | (with_reducible exact isi_str_int) | (with_reducible exact isi_str_bool) | (with_reducible exact isi_str_str) | (with_reducible exact isi_str_tuple) | (with_reducible exact isi_str_list) | (with_reducible exact isi_tup_int) | (with_reducible exact isi_tup_bool) | (with_reducible exact isi_tup_str) | (with_reducible exact isi_tup_tuple) | (with_reducible exact isi_tup_list) | (with_reducible exact isi_lst_int) | (with_reducible exact isi_lst_bool) | (with_reducible exact isi_lst_str) | (with_reducible exact isi_lst_tuple) | (with_reducible exact isi_lst_list))
local macro_rules | `(tactic| walk_at "rc") => `(tactic| first
  | walk_at "isi"
  | (with_reducible exact rc_len) | (with_reducible exact rc_lent) | (with_reducible exact rc_lenc) | (with_reducible exact rc_toint) | (with_reducible exact rc_absv) | (with_reducible exact rc_gcd)
  | ((with_reducible apply rc_lcm); assumption)
  | ((with_reducible apply rc_isi); (focus rfl); assumption)
  | (with_reducible exact rco_list) | (with_reducible exact rco_listT))
local macro_rules | `(tactic| walk_at "ev") => `(tactic| first
  | (with_reducible exact ev_int) | (with_reducible exact ev_bl) | (with_reducible exact ev_non) | (with_reducible exact ev_str) | (with_reducible exact ev_ty)
  | ((with_reducible apply ev_var); rfl)
  | ((with_reducible apply ev_lenOw); rfl)
  | ((with_reducible apply ev_op) <;> first | walk_at "ev" | walk_at "rv")
  | ((with_reducible apply ev_un) <;> first | walk_at "ev" | walk_at "rv")
  | ((with_reducible apply ev_cb) <;> first | walk_at "ev" | walk_at "rc")
  | ((with_reducible apply ev_call) <;> first | walk_at "ev" | walk_at "pr")
  | ((with_reducible apply ev_tup) <;> first | walk_at "ev" | (simp; done))
  | (with_reducible exact ea_nil)
  | ((with_reducible apply ea_cons) <;> walk_at "ev")
  | ((with_reducible apply et_test); walk_at "ev")
  | ((with_reducible apply et_B); walk_at "ev")
  | ((with_reducible apply et_not); walk_at "ev")
  | ((with_reducible apply et_or); (walk_at "ev"); intro _; walk_at "ev")
  | ((with_reducible apply et_and); (walk_at "ev"); intro _; walk_at "ev")
  | ((with_reducible apply ev_orV); (walk_at "ev"); intro _; walk_at "ev")
  | ((with_reducible apply ev_andV); (walk_at "ev"); intro _; walk_at "ev")
  | ((with_reducible apply ev_notV); walk_at "ev")
  | (with_reducible exact et_yes)
  | ((with_reducible apply evo_lst) <;> first | walk_at "ev" | (simp; done))
  | ((with_reducible apply ev_opO) <;> first | walk_at "ev" | ((with_reducible apply rvo_add); simp; omega))
  | ((with_reducible apply ev_cbO) <;> first | walk_at "ev" | walk_at "rc")
  | ((with_reducible apply ev_callO) <;> first | walk_at "ev" | walk_at "pr")
  | ((with_reducible apply ec_call) <;> first | walk_at "ev" | walk_at "pr")
  | ((with_reducible apply ec_tup) <;> first | walk_at "ev" | (simp; done))
  | ((with_reducible apply ec_lst) <;> first | walk_at "ev" | (simp; done))
  | (with_reducible exact eca_nil)
  | ((with_reducible apply eca_cons) <;> walk_at "ev")
  | ((with_reducible apply ec_sc); (walk_at "ev"); rfl)
  | ((with_reducible apply ec_ow); (walk_at "ev"); first | assumption | (intro d hd; simp at hd; done))
  | ((with_reducible apply ec_fz); walk_at "ev")
  | ((with_reducible apply ev_fz); walk_at "ev"))

local macro_rules | `(tactic| walk_at "im") => `(tactic| ((with_reducible apply wq_asg); walk_at "ev"; (try dsimp only [List.set, Int.reduceToNat])))
local macro_rules | `(tactic| walk_at "ow") => `(tactic| ((with_reducible apply wq_asgO); walk_at "ev"; (focus (first | decide | (simp; done))); (try dsimp only [List.set, Int.reduceToNat])))
local macro_rules | `(tactic| walk_at "cl") => `(tactic| ((with_reducible apply wq_asgC); walk_at "ev"; (focus (first | decide | (simp; done))); (try dsimp only [List.set, Int.reduceToNat])))
local macro_rules | `(tactic| walk_at "if") => `(tactic| ((first | (with_reducible apply wq_when) | (with_reducible apply wq_if) | (with_reducible apply ws_if)); walk_at "ev"; (try dsimp only [Int.reduceToNat])))
local macro_rules | `(tactic| walk_at "ret") => `(tactic| ((with_reducible apply ws_ret); walk_at "ev"))
local macro_rules | `(tactic| walk_at "go") => `(tactic| (try dsimp only [cxOf, L2.Cx.nox, L2.Cx.wish, L2.Cx.blk]))
local macro_rules | `(tactic| walk_at "ints") => `(tactic| (refine ev_fz (evo_lst ?_ (by decide)); repeat (first | exact ea_nil | refine ea_cons ev_int ?_)))

/-! ### _law_door -/
def dueL (cs : List Int) (pays : List (List Int)) (door q o c : Int) : Str × Int :=
  if ¬ (0 ≤ q ∧ q < cs.length) then ("NoPerson", q) else if ¬ (0 ≤ o ∧ o < prodI cs) then ("NoWorld", o)
  else if door = 0 then ("told", chosenN cs q.toNat o) else if door = 1 then ("told", (pays.getD q.toNat []).getD o.toNat 0)
  else if ¬ (0 ≤ c ∧ c < cs.getD q.toNat 0) then ("NoChoice", c) else ("told", o + (c - chosenN cs q.toNat o) * stepN cs q.toNat)
def toldD (a : Str × Int) : D := .lst [.str a.1, .int a.2]
section
variable {P : Program} {w : World} {K : PySem.W.Frag} {mg : Str → Option Value} {base : Heap} {C_Game C_Fault C_BadGame C_NoPerson C_NoWorld C_NoChoice : Addr}
def P_door (C : Addr) : PrD := fun ds R _ => ∃ (cs : List Int) (pays : List (List Int)) (door q o c : Int), ds = [gameD C ⟨cs, pays⟩, .int door, .int q, .int o, .int c] ∧ Fits cs pays ∧ R (.im (toldD (dueL cs pays door q o c)))
/-- the errors that a door may raise, and what is told of them -/
def toldX (cp cw cc : Addr) (z : Exn) (a : Str × Int) : Prop := (∃ q, z = xNoPerson cp q ∧ a = (("NoPerson" : Str), q)) ∨ (∃ q, z = xNoWorld cw q ∧ a = (("NoWorld" : Str), q)) ∨ (∃ q, z = xNoChoice cc q ∧ a = (("NoChoice" : Str), q))
theorem ok_door (F : Df K mg "_law_door" s_law_door ["game", "door", "person", "outcome", "choice"]) (gm : Gm K mg C_Game C_Fault C_BadGame C_NoPerson C_NoWorld C_NoChoice) (G_Game_chosen : FnM P w K mg base (L2N.CX P w) 4 C_Game "chosen" ["self", "person", "outcome"] (spD K (P_chosen C_Game C_NoPerson C_NoWorld))) (G_Game_pay : FnM P w K mg base (L2N.CX P w) 4 C_Game "pay" ["self", "person", "outcome"] (spD K (P_pay C_Game C_NoPerson C_NoWorld))) (G_Game_switched : FnM P w K mg base (L2N.CX P w) 5 C_Game "switched" ["self", "person", "outcome", "choice"] (spD K (P_switched C_Game C_NoPerson C_NoWorld C_NoChoice))) : FnG P w K mg base CX0 6 "_law_door" ["game", "door", "person", "outcome", "choice"] (spD K (P_door C_Game)) := by
  refine F.ok (k := 5) sc_law_door (fun ds R Z ⟨a, b, c, d, e, g, h, _⟩ => by rw [h] <;> rfl) (fun f cdv A outer s H E hr => ?_)
  refine ⟨_,
    (pss_cons (ps_tryN (i := 5) rfl rfl sc_law_door.nd rfl rfl ⟨rfl, by decide, .inl gm.Fault_v⟩ takesN0 (fun W pn xe tk pw => (pss_cons (ps_if (pt_cmpR (kEq K hr.units) (pv 1) pe_int (nomark _)) (pss_one (ps_ret (pe_lst (pa_cons pe_str (pa_cons (pe_mX G_Game_chosen gm.Game_c hr.le tk (pv 0) (pa_cons (pv 2) (pa_cons (pv 3) pa_nil))) pa_nil))))) pss_nil) (pss_cons (ps_if (pt_cmpR (kEq K hr.units) (pv 1) pe_int (nomark _)) (pss_one (ps_ret (pe_lst (pa_cons pe_str (pa_cons (pe_mX G_Game_pay gm.Game_c hr.le tk (pv 0) (pa_cons (pv 2) (pa_cons (pv 3) pa_nil))) pa_nil))))) pss_nil) (pss_one (ps_ret (pe_lst (pa_cons pe_str (pa_cons (pe_mX G_Game_switched gm.Game_c hr.le tk (pv 0) (pa_cons (pv 2) (pa_cons (pv 3) (pa_cons (pv 4) pa_nil)))) pa_nil)))))))) (fun a oe cls d pn hz hf => (pss_cons (sv 6 sc_law_door.nd (pe_lst (pa_cons (cb (kIsX K List.mem_cons_self hz hf) gm.isinstance (pa_cons (pv 5) (pa_cons (gc gm.NoPerson_v) pa_nil))) (pa_cons (cb (kIsX K List.mem_cons_self hz hf) gm.isinstance (pa_cons (pv 5) (pa_cons (gc gm.NoWorld_v) pa_nil))) (pa_cons (cb (kIsX K List.mem_cons_self hz hf) gm.isinstance (pa_cons (pv 5) (pa_cons (gc gm.NoChoice_v) pa_nil))) (pa_cons (cb (kIsX K List.mem_cons_self hz hf) gm.isinstance (pa_cons (pv 5) (pa_cons (gc gm.BadGame_v) pa_nil))) pa_nil)))))) (pss_cons (ps_if (pt_cmpR (kEq K hr.units) (pv 6) (pe_lst (pa_cons pe_bl (pa_cons pe_bl (pa_cons pe_bl (pa_cons pe_bl pa_nil))))) (nomark _)) (pss_one (ps_ret (pe_lst (pa_cons pe_str (pa_cons (kXf K List.mem_cons_self hz hf (pv 5)) pa_nil))))) pss_nil) (pss_cons (ps_if (pt_cmpR (kEq K hr.units) (pv 6) (pe_lst (pa_cons pe_bl (pa_cons pe_bl (pa_cons pe_bl (pa_cons pe_bl pa_nil))))) (nomark _)) (pss_one (ps_ret (pe_lst (pa_cons pe_str (pa_cons (kXf K List.mem_cons_self hz hf (pv 5)) pa_nil))))) pss_nil) (pss_one (ps_if (pt_cmpR (kEq K hr.units) (pv 6) (pe_lst (pa_cons pe_bl (pa_cons pe_bl (pa_cons pe_bl (pa_cons pe_bl pa_nil))))) (nomark _)) (pss_one (ps_ret (pe_lst (pa_cons pe_str (pa_cons (kXf K List.mem_cons_self hz hf (pv 5)) pa_nil))))) pss_nil)))))))
    (pss_one (ps_ret (pe_lst (pa_cons pe_str pa_nil))))), fun ds R Z p => ?_⟩
  obtain ⟨cs, pays, door, q, o, c, rfl, hf, p⟩ := p
  refine ws_to (ρ' := [.im (gameD C_Game ⟨cs, pays⟩), .im (.int door), .im (.int q), .im (.int o), .im (.int c), .no, .no]) rfl ?_
  walk_at "go"
  refine ws_seq (ws_tryN (Pc := fun ρ' z => ρ' = [.im (gameD C_Game ⟨cs, pays⟩), .im (.int door), .im (.int q), .im (.int o), .im (.int c), .no, .no] ∧ toldX C_NoPerson C_NoWorld C_NoChoice z (dueL cs pays door q o c)) (fun W => ?_) ?_)
  · have hz : ∀ z, refuse C_NoPerson C_NoWorld cs q o = some z → toldX C_NoPerson C_NoWorld C_NoChoice z (dueL cs pays door q o c) := fun z hz => by
      unfold refuse at hz
      unfold dueL
      split at hz
      · rename_i h
        rw [if_pos h]
        exact .inl ⟨q, (Option.some.inj hz).symm, rfl⟩
      · rename_i h
        rw [if_neg h]
        split at hz
        · rename_i h2
          rw [if_pos h2]
          exact .inr (.inl ⟨o, (Option.some.inj hz).symm, rfl⟩)
        · cases hz
    refine wq_when (et_test (ev_op (ev_var rfl) ev_int rv_eq)) (fun hb => ?_) (fun hb => ?_)
    · have hd : door = 0 := of_decide_eq_true hb
      cases hr' : refuse C_NoPerson C_NoWorld cs q o with
      | none =>
        obtain ⟨h1, h2⟩ := refuse_ok hr'
        refine ws_ret (ev_fz (evo_lst (ea_cons ev_str (ea_cons (ev_callS (eva_recv (l := gameL ⟨cs, pays⟩) (ns := gameNs) (ev_var rfl) (by decide) (ea_cons (ev_var rfl) (ea_cons (ev_var rfl) ea_nil))) ⟨⟨cs, pays⟩, q, o, rfl, hf.1, fun _ => rfl, fun z h => by rw [hr'] at h; cases h⟩) ea_nil)) (by simp))) ?_
        rw [dueL, if_neg (fun z => z h1), if_neg (fun z => z h2), if_pos hd] at p
        exact p
      | some z => exact ws_retZ (ez_lst (eza_next ev_str (eza_here (ez_call (z := z) (eva_recv (l := gameL ⟨cs, pays⟩) (ns := gameNs) (ev_var rfl) (by decide) (ea_cons (ev_var rfl) (ea_cons (ev_var rfl) ea_nil))) ⟨⟨cs, pays⟩, q, o, rfl, hf.1, fun h => (by rw [hr'] at h; cases h), fun z' h => by rw [hr'] at h; exact (Option.some.inj h).symm⟩)))) ⟨rfl, hz z hr'⟩
    have hd : ¬ door = 0 := of_decide_eq_false hb
    refine wq_when (et_test (ev_op (ev_var rfl) ev_int rv_eq)) (fun hb => ?_) (fun hb => ?_)
    · have hd1 : door = 1 := of_decide_eq_true hb
      cases hr' : refuse C_NoPerson C_NoWorld cs q o with
      | none =>
        obtain ⟨h1, h2⟩ := refuse_ok hr'
        refine ws_ret (ev_fz (evo_lst (ea_cons ev_str (ea_cons (ev_callS (eva_recv (l := gameL ⟨cs, pays⟩) (ns := gameNs) (ev_var rfl) (by decide) (ea_cons (ev_var rfl) (ea_cons (ev_var rfl) ea_nil))) ⟨⟨cs, pays⟩, q, o, rfl, hf, fun _ => rfl, fun z h => by rw [hr'] at h; cases h⟩) ea_nil)) (by simp))) ?_
        rw [dueL, if_neg (fun z => z h1), if_neg (fun z => z h2), if_neg hd, if_pos hd1] at p
        exact p
      | some z => exact ws_retZ (ez_lst (eza_next ev_str (eza_here (ez_call (z := z) (eva_recv (l := gameL ⟨cs, pays⟩) (ns := gameNs) (ev_var rfl) (by decide) (ea_cons (ev_var rfl) (ea_cons (ev_var rfl) ea_nil))) ⟨⟨cs, pays⟩, q, o, rfl, hf, fun h => (by rw [hr'] at h; cases h), fun z' h => by rw [hr'] at h; exact (Option.some.inj h).symm⟩)))) ⟨rfl, hz z hr'⟩
    have hd1 : ¬ door = 1 := of_decide_eq_false hb
    cases hr' : refuse3 C_NoPerson C_NoWorld C_NoChoice cs q o c with
    | none =>
      have hr2 : refuse C_NoPerson C_NoWorld cs q o = none := by
        unfold refuse3 at hr'
        split at hr'
        · cases hr'
        · rename_i h
          exact h
      obtain ⟨h1, h2⟩ := refuse_ok hr2
      have h3 : 0 ≤ c ∧ c < cs.getD q.toNat 0 := by
        rw [refuse3, hr2] at hr'
        dsimp only at hr'
        split at hr'
        · cases hr'
        · rename_i h
          exact Decidable.not_not.mp h
      refine ws_ret (ev_fz (evo_lst (ea_cons ev_str (ea_cons (ev_callS (eva_recv (l := gameL ⟨cs, pays⟩) (ns := gameNs) (ev_var rfl) (by decide) (ea_cons (ev_var rfl) (ea_cons (ev_var rfl) (ea_cons (ev_var rfl) ea_nil)))) ⟨⟨cs, pays⟩, q, o, c, rfl, hf.1, fun _ => rfl, fun z h => by rw [hr'] at h; cases h⟩) ea_nil)) (by simp))) ?_
      rw [dueL, if_neg (fun z => z h1), if_neg (fun z => z h2), if_neg hd, if_neg hd1, if_neg (fun z => z h3)] at p
      exact p
    | some z =>
      refine ws_retZ (ez_lst (eza_next ev_str (eza_here (ez_call (z := z) (eva_recv (l := gameL ⟨cs, pays⟩) (ns := gameNs) (ev_var rfl) (by decide) (ea_cons (ev_var rfl) (ea_cons (ev_var rfl) (ea_cons (ev_var rfl) ea_nil)))) ⟨⟨cs, pays⟩, q, o, c, rfl, hf.1, fun h => (by rw [hr'] at h; cases h), fun z' h => by rw [hr'] at h; exact (Option.some.inj h).symm⟩)))) ⟨rfl, ?_⟩
      cases hr2 : refuse C_NoPerson C_NoWorld cs q o with
      | some z2 =>
        rw [refuse3, hr2] at hr'
        cases hr'
        exact hz z hr2
      | none =>
        obtain ⟨h1, h2⟩ := refuse_ok hr2
        rw [refuse3, hr2] at hr'
        dsimp only at hr'
        split at hr'
        · rename_i h
          rw [dueL, if_neg (fun z => z h1), if_neg (fun z => z h2), if_neg hd, if_neg hd1, if_pos h]
          exact .inr (.inr ⟨c, (Option.some.inj hr').symm, rfl⟩)
        · cases hr'
  · rintro ρ' z ⟨rfl, ht⟩
    have lit : ∀ (ρ : Rho) (a b c d : Bool), EvD K (tLst (tCons (tC (.bl a)) (tCons (tC (.bl b)) (tCons (tC (.bl c)) (tCons (tC (.bl d)) tNil))))) ρ (.lst [.bl a, .bl b, .bl c, .bl d]) := fun ρ a b c d => ev_fz (evo_lst (ea_cons ev_bl (ea_cons ev_bl (ea_cons ev_bl (ea_cons ev_bl ea_nil)))) (by simp))
    rcases ht with ⟨x, rfl, hdue⟩ | ⟨x, rfl, hdue⟩ | ⟨x, rfl, hdue⟩ <;> rw [hdue] at p
    · refine ⟨gm.NoPerson_m, fun a od => ?_⟩
      dsimp only [xNoPerson, List.set]
      refine wq_asg (d := .lst [.bl true, .bl false, .bl false, .bl false]) (ev_fz (evo_lst (ea_cons (ev_isX rfl ev_obj rfl gm.NoPerson_e gm.kit_NoPerson_NoPerson) (ea_cons (ev_isX rfl ev_obj rfl gm.NoPerson_e gm.kit_NoPerson_NoWorld) (ea_cons (ev_isX rfl ev_obj rfl gm.NoPerson_e gm.kit_NoPerson_NoChoice) (ea_cons (ev_isX rfl ev_obj rfl gm.NoPerson_e gm.kit_NoPerson_BadGame) ea_nil)))) (by simp))) ?_
      dsimp only [List.set]
      refine wq_ifT (et_test (ev_op (ev_var rfl) (lit _ _ _ _ _) (rv_eqD (n := 1) rfl rfl (by decide)))) (by decide +kernel) ?_
      exact ws_ret (ev_fz (evo_lst (ea_cons ev_str (ea_cons (ev_xf rfl (by simp) (j := 0) (d := .int x) (by decide) rfl gm.NoPerson_e gm.NoPerson_person) ea_nil)) (by simp))) p
    · refine ⟨gm.NoWorld_m, fun a od => ?_⟩
      dsimp only [xNoWorld, List.set]
      refine wq_asg (d := .lst [.bl false, .bl true, .bl false, .bl false]) (ev_fz (evo_lst (ea_cons (ev_isX rfl ev_obj rfl gm.NoWorld_e gm.kit_NoWorld_NoPerson) (ea_cons (ev_isX rfl ev_obj rfl gm.NoWorld_e gm.kit_NoWorld_NoWorld) (ea_cons (ev_isX rfl ev_obj rfl gm.NoWorld_e gm.kit_NoWorld_NoChoice) (ea_cons (ev_isX rfl ev_obj rfl gm.NoWorld_e gm.kit_NoWorld_BadGame) ea_nil)))) (by simp))) ?_
      dsimp only [List.set]
      refine wq_noif (et_test (ev_op (ev_var rfl) (lit _ _ _ _ _) (rv_eqD (n := 1) rfl rfl (by decide)))) (by decide +kernel) ?_
      refine wq_ifT (et_test (ev_op (ev_var rfl) (lit _ _ _ _ _) (rv_eqD (n := 1) rfl rfl (by decide)))) (by decide +kernel) ?_
      exact ws_ret (ev_fz (evo_lst (ea_cons ev_str (ea_cons (ev_xf rfl (by simp) (j := 0) (d := .int x) (by decide) rfl gm.NoWorld_e gm.NoWorld_world) ea_nil)) (by simp))) p
    · refine ⟨gm.NoChoice_m, fun a od => ?_⟩
      dsimp only [xNoChoice, List.set]
      refine wq_asg (d := .lst [.bl false, .bl false, .bl true, .bl false]) (ev_fz (evo_lst (ea_cons (ev_isX rfl ev_obj rfl gm.NoChoice_e gm.kit_NoChoice_NoPerson) (ea_cons (ev_isX rfl ev_obj rfl gm.NoChoice_e gm.kit_NoChoice_NoWorld) (ea_cons (ev_isX rfl ev_obj rfl gm.NoChoice_e gm.kit_NoChoice_NoChoice) (ea_cons (ev_isX rfl ev_obj rfl gm.NoChoice_e gm.kit_NoChoice_BadGame) ea_nil)))) (by simp))) ?_
      dsimp only [List.set]
      refine wq_noif (et_test (ev_op (ev_var rfl) (lit _ _ _ _ _) (rv_eqD (n := 1) rfl rfl (by decide)))) (by decide +kernel) ?_
      refine wq_noif (et_test (ev_op (ev_var rfl) (lit _ _ _ _ _) (rv_eqD (n := 1) rfl rfl (by decide)))) (by decide +kernel) ?_
      refine ws_ifT (et_test (ev_op (ev_var rfl) (lit _ _ _ _ _) (rv_eqD (n := 1) rfl rfl (by decide)))) (by decide +kernel) ?_
      exact ws_ret (ev_fz (evo_lst (ea_cons ev_str (ea_cons (ev_xf rfl (by simp) (j := 0) (d := .int x) (by decide) rfl gm.NoChoice_e gm.NoChoice_choice) ea_nil)) (by simp))) p
end
end FS
set_option Elab.async false
set_option linter.all false
set_option maxRecDepth 100000
set_option maxHeartbeats 4000000
set_option exponentiation.threshold 20000
namespace FS
open PySem PySem.Spec PyProof.Rows L2

local macro_rules | `(tactic| walk_at "side") => `(tactic| first | assumption | omega | decide)
local macro_rules | `(tactic| walk_at "hv") => `(tactic| (intro i hi; simp at hi; first | (subst hi; rfl) | (rcases hi with rfl | rfl <;> rfl) | (rcases hi with rfl | rfl | rfl <;> rfl)))
local macro_rules | `(tactic| walk_at "pr") => `(tactic| fail "no promise")
local macro_rules | `(tactic| walk_at "rv") => `(tactic| first
  | (with_reducible exact rv_add) | (with_reducible exact rv_sub) | (with_reducible exact rv_lt) | (with_reducible exact rv_le) | (with_reducible exact rv_gt) | (with_reducible exact rv_ge) | (with_reducible exact rv_eq) | (with_reducible exact rv_ne)
  | (with_reducible exact rv_is) | (with_reducible exact rv_isnot)
  | ((with_reducible apply rv_div); first | assumption | exact cdiv_small (by omega) (by omega))
  | ((with_reducible apply rv_mod); first | assumption | omega)
  | ((with_reducible apply rv_mul); first | assumption | exact cmul_left (by omega) | exact cmul_right (by omega))
  | ((with_reducible apply rv_mulW); assumption)
  | (with_reducible exact rv_p8) | (with_reducible exact rv_p18) | (with_reducible exact rv_p40) | (with_reducible exact rv_p20) | (with_reducible exact rv_p6) | (with_reducible exact rv_p7) | (with_reducible exact rv_p12) | (with_reducible exact rv_p25) | (with_reducible exact rv_p30) | (with_reducible exact rv_p39) | (with_reducible exact rv_p60)
  | ((with_reducible apply rv_ixxL); first | assumption | exact at_getD (by omega) (by omega) | exact at_nat rfl)
  | ((with_reducible apply rv_ixxT); first | assumption | exact at_getD (by omega) (by omega) | exact at_nat rfl)
  | ((with_reducible apply rv_ixxC); first | assumption)
  | (with_reducible exact ru_neg))
local macro_rules | `(tactic| walk_at "isi") => `(tactic| first | (with_reducible exact isi_non_int) | (with_reducible exact isi_non_bool) | (with_reducible exact isi_non_str) | (with_reducible exact isi_non_tuple) | (with_reducible exact isi_non_list) | (with_reducible exact isi_bl_int) | (with_reducible exact isi_bl_bool) | (with_reducible exact isi_bl_str) | (with_reducible exact isi_bl_tuple) | (with_reducible exact isi_bl_list) | (with_reducible exact isi_int_int) | (with_reducible exact isi_int_bool) | (with_reducible exact isi_int_str) | (with_reducible exact isi_int_tuple) | (with_reducible exact isi_int_list) | (with_reducible exact isi_str_int) | (with_reducible exact isi_str_bool) | (with_reducible exact isi_str_str) | (with_reducible exact isi_str_tuple) | (with_reducible exact isi_str_list) | (with_reducible exact isi_tup_int) | (with_reducible exact isi_tup_bool) | (with_reducible exact isi_tup_str) | (with_reducible exact isi_tup_tuple) | (with_reducible exact isi_tup_list) | (with_reducible exact isi_lst_int) | (with_reducible exact isi_lst_bool) | (with_reducible exact isi_lst_str) | (with_reducible exact isi_lst_tuple) | (with_reducible exact isi_lst_list))
local macro_rules | `(tactic| walk_at "rc") => `(tactic| first
  | walk_at "isi"
  | (with_reducible exact rc_len) | (with_reducible exact rc_lent) | (with_reducible exact rc_lenc) | (with_reducible exact rc_toint) | (with_reducible exact rc_absv) | (with_reducible exact rc_gcd)
  | ((with_reducible apply rc_lcm); assumption)
  | ((with_reducible apply rc_isi); (focus rfl); assumption)
  | (with_reducible exact rco_list) | (with_reducible exact rco_listT))
local macro_rules | `(tactic| walk_at "ev") => `(tactic| first
  | (with_reducible exact ev_int) | (with_reducible exact ev_bl) | (with_reducible exact ev_non) | (with_reducible exact ev_str) | (with_reducible exact ev_ty)
  | ((with_reducible apply ev_var); rfl)
  | ((with_reducible apply ev_lenOw); rfl)
  | ((with_reducible apply ev_op) <;> first | walk_at "ev" | walk_at "rv")
  | ((with_reducible apply ev_un) <;> first | walk_at "ev" | walk_at "rv")
  | ((with_reducible apply ev_cb) <;> first | walk_at "ev" | walk_at "rc")
  | ((with_reducible apply ev_call) <;> first | walk_at "ev" | walk_at "pr")
  | ((with_reducible apply ev_tup) <;> first | walk_at "ev" | (simp; done))
  | (with_reducible exact ea_nil)
  | ((with_reducible apply ea_cons) <;> walk_at "ev")
  | ((with_reducible apply et_test); walk_at "ev")
  | ((with_reducible apply et_B); walk_at "ev")
  | ((with_reducible apply et_not); walk_at "ev")
  | ((with_reducible apply et_or); (walk_at "ev"); intro _; walk_at "ev")
  | ((with_reducible apply et_and); (walk_at "ev"); intro _; walk_at "ev")
  | ((with_reducible apply ev_orV); (walk_at "ev"); intro _; walk_at "ev")
  | ((with_reducible apply ev_andV); (walk_at "ev"); intro _; walk_at "ev")
  | ((with_reducible apply ev_notV); walk_at "ev")
  | (with_reducible exact et_yes)
  | ((with_reducible apply evo_lst) <;> first | walk_at "ev" | (simp; done))
  | ((with_reducible apply ev_opO) <;> first | walk_at "ev" | ((with_reducible apply rvo_add); simp; omega))
  | ((with_reducible apply ev_cbO) <;> first | walk_at "ev" | walk_at "rc")
  | ((with_reducible apply ev_callO) <;> first | walk_at "ev" | walk_at "pr")
  | ((with_reducible apply ec_call) <;> first | walk_at "ev" | walk_at "pr")
  | ((with_reducible apply ec_tup) <;> first | walk_at "ev" | (simp; done))
  | ((with_reducible apply ec_lst) <;> first | walk_at "ev" | (simp; done))
  | (with_reducible exact eca_nil)
  | ((with_reducible apply eca_cons) <;> walk_at "ev")
  | ((with_reducible apply ec_sc); (walk_at "ev"); rfl)
  | ((with_reducible apply ec_ow); (walk_at "ev"); first | assumption | (intro d hd; simp at hd; done))
  | ((with_reducible apply ec_fz); walk_at "ev")
  | ((with_reducible apply ev_fz); walk_at "ev"))

local macro_rules | `(tactic| walk_at "im") => `(tactic| ((with_reducible apply wq_asg); walk_at "ev"; (try dsimp only [List.set, Int.reduceToNat])))
local macro_rules | `(tactic| walk_at "ow") => `(tactic| ((with_reducible apply wq_asgO); walk_at "ev"; (focus (first | decide | (simp; done))); (try dsimp only [List.set, Int.reduceToNat])))
local macro_rules | `(tactic| walk_at "cl") => `(tactic| ((with_reducible apply wq_asgC); walk_at "ev"; (focus (first | decide | (simp; done))); (try dsimp only [List.set, Int.reduceToNat])))
local macro_rules | `(tactic| walk_at "if") => `(tactic| ((first | (with_reducible apply wq_when) | (with_reducible apply wq_if) | (with_reducible apply ws_if)); walk_at "ev"; (try dsimp only [Int.reduceToNat])))
local macro_rules | `(tactic| walk_at "ret") => `(tactic| ((with_reducible apply ws_ret); walk_at "ev"))
local macro_rules | `(tactic| walk_at "go") => `(tactic| (try dsimp only [cxOf, L2.Cx.nox, L2.Cx.wish, L2.Cx.blk]))
local macro_rules | `(tactic| walk_at "ints") => `(tactic| (refine ev_fz (evo_lst ?_ (by decide)); repeat (first | exact ea_nil | refine ea_cons ev_int ?_)))

/-! ### the list of outcomes -/
theorem find_first {α : Type} {l : List α} (h : l.Nodup) {i j : Nat} {x y : α} (hi : l[i]? = some x) (hj : l[j]? = some y) (hlt : i < j) : x ≠ y := fun e => by
  subst e
  obtain ⟨hi1, hi2⟩ := List.getElem?_eq_some_iff.mp hi
  obtain ⟨hj1, hj2⟩ := List.getElem?_eq_some_iff.mp hj
  exact List.pairwise_iff_getElem.mp h i j hi1 hj1 hlt (hi2.trans hj2.symm)
def allO (cs : List Int) : List Int := (List.range (prodI cs).toNat).map fun o : Nat => (o : Int)
def rowF (cs : List Int) (o : Int) : List Int := (List.range cs.length).map fun q => chosenN cs q o
def swF (cs : List Int) (q : Nat) (o c : Int) : Int := o + (c - chosenN cs q o) * stepN cs q
def rowsB (cs : List Int) : Bool := decide (rowsOf cs = (allO cs).map (rowF cs)) && decide ((rowsOf cs).Nodup)
def swB (cs : List Int) : Bool := (allO cs).all fun o => (List.range cs.length).all fun q => (List.range (cs.getD q 0).toNat).all fun c => decide (0 ≤ swF cs q o (c : Int)) && decide (swF cs q o (c : Int) < prodI cs) && decide (rowF cs (swF cs q o (c : Int)) = (rowF cs o).set q (c : Int))
theorem rows_all : ∀ cs ∈ allC, fitB cs = true → rowsB cs = true := by decide +kernel
theorem sw_all : ∀ cs ∈ allC, fitB cs = true → swB cs = true := by decide +kernel
end FS
set_option Elab.async false
set_option linter.all false
set_option maxRecDepth 100000
set_option maxHeartbeats 4000000
set_option exponentiation.threshold 20000
namespace FS
open PySem PySem.Spec PyProof.Rows L2

local macro_rules | `(tactic| walk_at "side") => `(tactic| first | assumption | omega | decide)
local macro_rules | `(tactic| walk_at "hv") => `(tactic| (intro i hi; simp at hi; first | (subst hi; rfl) | (rcases hi with rfl | rfl <;> rfl) | (rcases hi with rfl | rfl | rfl <;> rfl)))
local macro_rules | `(tactic| walk_at "pr") => `(tactic| fail "no promise")
local macro_rules | `(tactic| walk_at "rv") => `(tactic| first
  | (with_reducible exact rv_add) | (with_reducible exact rv_sub) | (with_reducible exact rv_lt) | (with_reducible exact rv_le) | (with_reducible exact rv_gt) | (with_reducible exact rv_ge) | (with_reducible exact rv_eq) | (with_reducible exact rv_ne)
  | (with_reducible exact rv_is) | (with_reducible exact rv_isnot)
  | ((with_reducible apply rv_div); first | assumption | exact cdiv_small (by omega) (by omega))
  | ((with_reducible apply rv_mod); first | assumption | omega)
  | ((with_reducible apply rv_mul); first | assumption | exact cmul_left (by omega) | exact cmul_right (by omega))
  | ((with_reducible apply rv_mulW); assumption)
  | (with_reducible exact rv_p8) | (with_reducible exact rv_p18) | (with_reducible exact rv_p40) | (with_reducible exact rv_p20) | (with_reducible exact rv_p6) | (with_reducible exact rv_p7) | (with_reducible exact rv_p12) | (with_reducible exact rv_p25) | (with_reducible exact rv_p30) | (with_reducible exact rv_p39) | (with_reducible exact rv_p60)
  | ((with_reducible apply rv_ixxL); first | assumption | exact at_getD (by omega) (by omega) | exact at_nat rfl)
  | ((with_reducible apply rv_ixxT); first | assumption | exact at_getD (by omega) (by omega) | exact at_nat rfl)
  | ((with_reducible apply rv_ixxC); first | assumption)
  | (with_reducible exact ru_neg))
local macro_rules | `(tactic| walk_at "isi") => `(tactic| first | (with_reducible exact isi_non_int) | (with_reducible exact isi_non_bool) | (with_reducible exact isi_non_str) | (with_reducible exact isi_non_tuple) | (with_reducible exact isi_non_list) | (with_reducible exact isi_bl_int) | (with_reducible exact isi_bl_bool) | (with_reducible exact isi_bl_str) | (with_reducible exact isi_bl_tuple) | (with_reducible exact isi_bl_list) | (with_reducible exact isi_int_int) | (with_reducible exact isi_int_bool) | (with_reducible exact isi_int_str) | (with_reducible exact isi_int_tuple) | (with_reducible exact isi_int_list) | (with_reducible exact isi_str_int) | (with_reducible exact isi_str_bool) | (with_reducible exact isi_str_str) | (with_reducible exact isi_str_tuple) | (with_reducible exact isi_str_list) | (with_reducible exact isi_tup_int) | (with_reducible exact isi_tup_bool) | (with_reducible exact isi_tup_str) | (with_reducible exact isi_tup_tuple) | (with_reducible exact isi_tup_list) | (with_reducible exact isi_lst_int) | (with_reducible exact isi_lst_bool) | (with_reducible exact isi_lst_str) | (with_reducible exact isi_lst_tuple) | (with_reducible exact isi_lst_list))
local macro_rules | `(tactic| walk_at "rc") => `(tactic| first
  | walk_at "isi"
  | (with_reducible exact rc_len) | (with_reducible exact rc_lent) | (with_reducible exact rc_lenc) | (with_reducible exact rc_toint) | (with_reducible exact rc_absv) | (with_reducible exact rc_gcd)
  | ((with_reducible apply rc_lcm); assumption)
  | ((with_reducible apply rc_isi); (focus rfl); assumption)
  | (with_reducible exact rco_list) | (with_reducible exact rco_listT))
local macro_rules | `(tactic| walk_at "ev") => `(tactic| first
  | (with_reducible exact ev_int) | (with_reducible exact ev_bl) | (with_reducible exact ev_non) | (with_reducible exact ev_str) | (with_reducible exact ev_ty)
  | ((with_reducible apply ev_var); rfl)
  | ((with_reducible apply ev_lenOw); rfl)
  | ((with_reducible apply ev_op) <;> first | walk_at "ev" | walk_at "rv")
  | ((with_reducible apply ev_un) <;> first | walk_at "ev" | walk_at "rv")
  | ((with_reducible apply ev_cb) <;> first | walk_at "ev" | walk_at "rc")
  | ((with_reducible apply ev_call) <;> first | walk_at "ev" | walk_at "pr")
  | ((with_reducible apply ev_tup) <;> first | walk_at "ev" | (simp; done))
  | (with_reducible exact ea_nil)
  | ((with_reducible apply ea_cons) <;> walk_at "ev")
  | ((with_reducible apply et_test); walk_at "ev")
  | ((with_reducible apply et_B); walk_at "ev")
  | ((with_reducible apply et_not); walk_at "ev")
  | ((with_reducible apply et_or); (walk_at "ev"); intro _; walk_at "ev")
  | ((with_reducible apply et_and); (walk_at "ev"); intro _; walk_at "ev")
  | ((with_reducible apply ev_orV); (walk_at "ev"); intro _; walk_at "ev")
  | ((with_reducible apply ev_andV); (walk_at "ev"); intro _; walk_at "ev")
  | ((with_reducible apply ev_notV); walk_at "ev")
  | (with_reducible exact et_yes)
  | ((with_reducible apply evo_lst) <;> first | walk_at "ev" | (simp; done))
  | ((with_reducible apply ev_opO) <;> first | walk_at "ev" | ((with_reducible apply rvo_add); simp; omega))
  | ((with_reducible apply ev_cbO) <;> first | walk_at "ev" | walk_at "rc")
  | ((with_reducible apply ev_callO) <;> first | walk_at "ev" | walk_at "pr")
  | ((with_reducible apply ec_call) <;> first | walk_at "ev" | walk_at "pr")
  | ((with_reducible apply ec_tup) <;> first | walk_at "ev" | (simp; done))
  | ((with_reducible apply ec_lst) <;> first | walk_at "ev" | (simp; done))
  | (with_reducible exact eca_nil)
  | ((with_reducible apply eca_cons) <;> walk_at "ev")
  | ((with_reducible apply ec_sc); (walk_at "ev"); rfl)
  | ((with_reducible apply ec_ow); (walk_at "ev"); first | assumption | (intro d hd; simp at hd; done))
  | ((with_reducible apply ec_fz); walk_at "ev")
  | ((with_reducible apply ev_fz); walk_at "ev"))

local macro_rules | `(tactic| walk_at "im") => `(tactic| ((with_reducible apply wq_asg); walk_at "ev"; (try dsimp only [List.set, Int.reduceToNat])))
local macro_rules | `(tactic| walk_at "ow") => `(tactic| ((with_reducible apply wq_asgO); walk_at "ev"; (focus (first | decide | (simp; done))); (try dsimp only [List.set, Int.reduceToNat])))
local macro_rules | `(tactic| walk_at "cl") => `(tactic| ((with_reducible apply wq_asgC); walk_at "ev"; (focus (first | decide | (simp; done))); (try dsimp only [List.set, Int.reduceToNat])))
local macro_rules | `(tactic| walk_at "if") => `(tactic| ((first | (with_reducible apply wq_when) | (with_reducible apply wq_if) | (with_reducible apply ws_if)); walk_at "ev"; (try dsimp only [Int.reduceToNat])))
local macro_rules | `(tactic| walk_at "ret") => `(tactic| ((with_reducible apply ws_ret); walk_at "ev"))
local macro_rules | `(tactic| walk_at "go") => `(tactic| (try dsimp only [cxOf, L2.Cx.nox, L2.Cx.wish, L2.Cx.blk]))
local macro_rules | `(tactic| walk_at "ints") => `(tactic| (refine ev_fz (evo_lst ?_ (by decide)); repeat (first | exact ea_nil | refine ea_cons ev_int ?_)))

theorem rows_eq {cs : List Int} (h : FitC cs) : rowsOf cs = (allO cs).map (rowF cs) := by
  have := rows_all cs (fit_all h) (fitB_iff.mpr h)
  simp only [rowsB, Bool.and_eq_true, decide_eq_true_eq] at this
  exact this.1
theorem rows_nodup {cs : List Int} (h : FitC cs) : (rowsOf cs).Nodup := by
  have := rows_all cs (fit_all h) (fitB_iff.mpr h)
  simp only [rowsB, Bool.and_eq_true, decide_eq_true_eq] at this
  exact this.2
theorem rows_len {cs : List Int} (h : FitC cs) : ((rowsOf cs).length : Int) = prodI cs := by
  have := fit_pos h
  rw [rows_eq h, List.length_map, allO, List.length_map, List.length_range]
  omega
theorem rows_at {cs : List Int} (h : FitC cs) {o : Int} (h0 : 0 ≤ o) (h1 : o < prodI cs) : (rowsOf cs)[o.toNat]? = some (rowF cs o) := by
  rw [rows_eq h, List.getElem?_map, allO, List.getElem?_map, List.getElem?_range (by omega)]
  show some (rowF cs ((o.toNat : Nat) : Int)) = _
  rw [show ((o.toNat : Nat) : Int) = o by omega]
theorem row_at {cs : List Int} {o : Int} {q : Nat} (hq : q < cs.length) : (rowF cs o)[q]? = some (chosenN cs q o) := by
  rw [rowF, List.getElem?_map, List.getElem?_range hq]
  rfl
theorem sw_ok {cs : List Int} (h : FitC cs) {o c : Int} {q : Nat} (h0 : 0 ≤ o) (h1 : o < prodI cs) (hq : q < cs.length) (hc0 : 0 ≤ c) (hc1 : c < cs.getD q 0) : 0 ≤ swF cs q o c ∧ swF cs q o c < prodI cs ∧ rowF cs (swF cs q o c) = (rowF cs o).set q c := by
  have a := List.all_eq_true.mp (sw_all cs (fit_all h) (fitB_iff.mpr h)) o (List.mem_map.mpr ⟨o.toNat, List.mem_range.mpr (by omega), by omega⟩)
  have b := List.all_eq_true.mp (List.all_eq_true.mp a q (List.mem_range.mpr hq)) c.toNat (List.mem_range.mpr (by omega))
  rw [show ((c.toNat : Nat) : Int) = c by omega] at b
  simp only [Bool.and_eq_true, decide_eq_true_eq] at b
  exact ⟨b.1.1, b.1.2, b.2⟩

section
variable {P : Program} {w : World} {K : PySem.W.Frag} {mg : Str → Option Value} {base : Heap} {C_Game C_Fault C_BadGame C_NoPerson C_NoWorld C_NoChoice : Addr}
/-! ### _law_due -/
def P_due : PrD := fun ds R _ => ∃ (cs : List Int) (pays : List (List Int)) (door q o c : Int), ds = [tabG cs pays, rowsD (rowsOf cs), .int door, .int q, .int o, .int c] ∧ Fits cs pays ∧ R (.im (toldD (dueL cs pays door q o c)))
theorem ok_due (F : Df K mg "_law_due" s_law_due ["tables", "rows", "door", "person", "outcome", "choice"]) (gm : Gm K mg C_Game C_Fault C_BadGame C_NoPerson C_NoWorld C_NoChoice) : FnG P w K mg base CX0 1 "_law_due" ["tables", "rows", "door", "person", "outcome", "choice"] (spD K P_due) := by
  refine F.ok (k := 0) sc_law_due (fun ds R Z ⟨a, b, c, d, e, g, h, _⟩ => by rw [h] <;> rfl) (fun f cdv A outer s H E hr => ?_)
  refine ⟨_,
    (pss_cons (ps_if (PW.pt (pw_or (pt_cmpR opLt (pv 3) pe_int (nomark _)) (pw_or1 (pt_cmpR opGe (pv 3) (cb (kLen K) gm.len (pa_cons (ix K (pv 0) pe_int) pa_nil)) (nomark _))))) (pss_one (ps_ret (pe_lst (pa_cons pe_str (pa_cons (pv 3) pa_nil))))) pss_nil)
    (pss_cons (ps_if (PW.pt (pw_or (pt_cmpR opLt (pv 4) pe_int (nomark _)) (pw_or1 (pt_cmpR opGe (pv 4) (cb (kLen K) gm.len (pa_cons (pv 1) pa_nil)) (nomark _))))) (pss_one (ps_ret (pe_lst (pa_cons pe_str (pa_cons (pv 4) pa_nil))))) pss_nil)
    (pss_cons (ps_if (pt_cmpR (kEq K hr.units) (pv 2) pe_int (nomark _)) (pss_one (ps_ret (pe_lst (pa_cons pe_str (pa_cons (ix K (ix K (pv 1) (pv 4)) (pv 3)) pa_nil))))) pss_nil)
    (pss_cons (ps_if (pt_cmpR (kEq K hr.units) (pv 2) pe_int (nomark _)) (pss_one (ps_ret (pe_lst (pa_cons pe_str (pa_cons (ix K (ix K (ix K (pv 0) pe_int) (pv 3)) (pv 4)) pa_nil))))) pss_nil)
    (pss_cons (ps_if (PW.pt (pw_or (pt_cmpR opLt (pv 5) pe_int (nomark _)) (pw_or1 (pt_cmpR opGe (pv 5) (ix K (ix K (pv 0) pe_int) (pv 3)) (nomark _))))) (pss_one (ps_ret (pe_lst (pa_cons pe_str (pa_cons (pv 5) pa_nil))))) pss_nil)
    (pss_cons (sv 6 sc_law_due.nd (ct (kList K) gm.list (pa_cons (ix K (pv 1) (pv 4)) pa_nil)))
    (pss_cons (ps_asg (pv 5) (pg_sub (pv 6) (pv 3) set_list))
    (pss_one (ps_ret (pe_lst (pa_cons pe_str (pa_cons (pe_bm PySem.F.plainAttrs_list PySem.F.slot_list_index PySem.F.type_list_index (mt_indexD hr.units65) (pv 1) (pa_cons (pv 6) pa_nil)) pa_nil)))))))))))), fun ds R Z p => ?_⟩
  obtain ⟨cs, pays, door, q, o, c, rfl, hf, p⟩ := p
  refine ws_to (ρ' := [.im (tabG cs pays), .im (rowsD (rowsOf cs)), .im (.int door), .im (.int q), .im (.int o), .im (.int c), .no]) rfl ?_
  walk_at "go"
  have hrl := rows_len hf.1
  have told : ∀ (ρ : Rho) (t : Str) (te : TE) (x : Int), EvD K te ρ (.int x) → EvD K (tLst (tCons (tC (.str t)) (tCons te tNil))) ρ (toldD (t, x)) := fun ρ t te x h => ev_fz (evo_lst (ea_cons ev_str (ea_cons h ea_nil)) (by simp))
  refine wq_when (et_or (et_test (ev_op (ev_var rfl) ev_int rv_lt)) fun _ => et_test (ev_op (ev_var rfl) ((ev_cb (ea_cons (ev_op (ev_var rfl) ev_int (rv_ixxL (d := intsD cs) (at_nat (j := 0) rfl))) ea_nil) rc_len).is (by rw [List.length_map])) rv_ge)) (fun hb => ?_) (fun hb => ?_)
  · have hb : q < 0 ∨ (cs.length : Int) ≤ q := by simpa using hb
    refine ws_ret (told _ _ _ _ (ev_var rfl)) ?_
    rw [dueL, if_pos (fun h => by omega)] at p
    exact p
  have hq : 0 ≤ q ∧ q < cs.length := by simpa using hb
  refine wq_when (et_or (et_test (ev_op (ev_var rfl) ev_int rv_lt)) fun _ => et_test (ev_op (ev_var rfl) ((ev_cb (ea_cons (ev_var rfl) ea_nil) rc_len).is (by rw [List.length_map])) rv_ge)) (fun hb => ?_) (fun hb => ?_)
  · have hb : o < 0 ∨ ((rowsOf cs).length : Int) ≤ o := by simpa using hb
    refine ws_ret (told _ _ _ _ (ev_var rfl)) ?_
    rw [dueL, if_neg (fun z => z hq), if_pos (fun h => by omega)] at p
    exact p
  have ho : 0 ≤ o ∧ o < prodI cs := by
    have hb : 0 ≤ o ∧ o < ((rowsOf cs).length : Int) := by simpa using hb
    omega
  rw [dueL, if_neg (fun z => z hq), if_neg (fun z => z ho)] at p
  have hqn : q.toNat < cs.length := by omega
  have eq : q = ((q.toNat : Nat) : Int) := by omega
  have eo : o = ((o.toNat : Nat) : Int) := by omega
  have aro : atI ((rowsOf cs).map intsD) o = some (intsD (rowF cs o)) := by
    have := at_map (f := intsD) (rows_at hf.1 ho.1 ho.2)
    rwa [← eo] at this
  have arq : atI ((rowF cs o).map D.int) q = some (.int (chosenN cs q.toNat o)) := by
    have := at_map (f := D.int) (row_at (o := o) hqn)
    rwa [← eq] at this
  have acq : atI (cs.map D.int) q = some (.int (cs.getD q.toNat 0)) := by
    have := at_ints hqn
    rwa [← eq] at this
  refine wq_when (et_test (ev_op (ev_var rfl) ev_int rv_eq)) (fun hb => ?_) (fun hb => ?_)
  · have hb : door = 0 := of_decide_eq_true hb
    rw [if_pos hb] at p
    exact ws_ret (told _ _ _ _ (ev_op (ev_op (ev_var rfl) (ev_var rfl) (rv_ixxL aro)) (ev_var rfl) (rv_ixxL arq))) p
  have hb0 : ¬ door = 0 := of_decide_eq_false hb
  rw [if_neg hb0] at p
  refine wq_when (et_test (ev_op (ev_var rfl) ev_int rv_eq)) (fun hb => ?_) (fun hb => ?_)
  · have hb : door = 1 := of_decide_eq_true hb
    rw [if_pos hb] at p
    have hpl := hf.2.1
    have hg : pays[q.toNat]? = some (pays.getD q.toNat []) := by rw [List.getD_eq_getElem?_getD, List.getElem?_eq_getElem (by omega)] <;> rfl
    have hrl := (hf.2.2 _ (List.mem_of_getElem? hg)).1
    have a1 : atI (pays.map intsD) q = some (intsD (pays.getD q.toNat [])) := by
      have := at_map (f := intsD) hg
      rwa [← eq] at this
    have a2 : atI ((pays.getD q.toNat []).map D.int) o = some (.int ((pays.getD q.toNat []).getD o.toNat 0)) := by
      have := at_ints (ns := pays.getD q.toNat []) (k := o.toNat) (by omega)
      rwa [← eo] at this
    exact ws_ret (told _ _ _ _ (ev_op (ev_op (ev_op (ev_var rfl) ev_int (rv_ixxL (d := rowsD pays) (at_nat (j := 1) rfl))) (ev_var rfl) (rv_ixxL a1)) (ev_var rfl) (rv_ixxL a2))) p
  have hb1 : ¬ door = 1 := of_decide_eq_false hb
  rw [if_neg hb1] at p
  refine wq_when (et_or (et_test (ev_op (ev_var rfl) ev_int rv_lt)) fun _ => et_test (ev_op (ev_var rfl) (ev_op (ev_op (ev_var rfl) ev_int (rv_ixxL (d := intsD cs) (at_nat (j := 0) rfl))) (ev_var rfl) (rv_ixxL acq)) rv_ge)) (fun hb => ?_) (fun hb => ?_)
  · have hb : c < 0 ∨ cs.getD q.toNat 0 ≤ c := by simpa using hb
    refine ws_ret (told _ _ _ _ (ev_var rfl)) ?_
    rw [if_pos (fun h => by omega)] at p
    exact p
  have hc : 0 ≤ c ∧ c < cs.getD q.toNat 0 := by simpa using hb
  rw [if_neg (fun z => z hc)] at p
  obtain ⟨w0, w1, w2⟩ := sw_ok hf.1 ho.1 ho.2 hqn hc.1 hc.2
  have hlr : (rowF cs o).length = cs.length := by rw [rowF, List.length_map, List.length_range]
  refine wq_asgO (ev_cbO (ea_cons (ev_op (ev_var rfl) (ev_var rfl) (rv_ixxL aro)) ea_nil) rco_list) (by simp) ?_
  dsimp only [List.set]
  refine ws_seq (ws_setL (i := 6) (j := q.toNat) rfl (ev_var rfl) (ev_var rfl) ?_ ?_)
  · rw [List.length_map, hlr]
    unfold ixN
    rw [if_pos hq.1, if_pos hq.2]
  dsimp only [List.set]
  refine ws_fz (i := 6) rfl ?_
  dsimp only [List.set]
  have e6 : ((rowF cs o).map D.int).set q.toNat (.int c) = (rowF cs (swF cs q.toNat o c)).map D.int := by rw [w2, List.map_set]
  rw [e6]
  have wt := rows_at hf.1 w0 w1
  have ew : swF cs q.toNat o c = (((swF cs q.toNat o c).toNat : Nat) : Int) := by omega
  have wt' : ((rowsOf cs).map intsD)[(swF cs q.toNat o c).toNat]? = some (intsD (rowF cs (swF cs q.toNat o c))) := by
    rw [List.getElem?_map, wt]
    rfl
  refine ws_ret (told _ _ _ (swF cs q.toNat o c) ((ev_indexD (n := 1) (l := (rowsOf cs).map intsD) (y := intsD (rowF cs (swF cs q.toNat o c))) (ev_var rfl) (ev_var rfl) (flat_rows (rowsOf cs)) (flat_intsD _) (by decide) wt' (fun m z hm hz => ?_)).is (by rw [← ew]))) p
  rw [List.getElem?_map] at hz
  cases hx : (rowsOf cs)[m]? with
  | none => rw [hx] at hz; cases hz
  | some x =>
    rw [hx] at hz
    cases hz
    rw [eqv_intsD]
    exact decide_eq_false (find_first (rows_nodup hf.1) hx wt hm)
end
section
variable {P : Program} {w : World} {K : PySem.W.Frag} {mg : Str → Option Value} {base : Heap} {C_Game C_Fault C_BadGame C_NoPerson C_NoWorld C_NoChoice : Addr}
/-! ### _law_agrees -/
def P_agrees (C : Addr) : PrD := fun ds R _ => ∃ (cs : List Int) (pays : List (List Int)) (door q o c : Int), ds = [gameD C ⟨cs, pays⟩, tabG cs pays, rowsD (rowsOf cs), .int door, .int q, .int o, .int c] ∧ Fits cs pays ∧ R (.im (.bl true))
theorem ok_agrees (F : Df K mg "_law_agrees" s_law_agrees ["game", "tables", "rows", "door", "person", "outcome", "choice"]) (gm : Gm K mg C_Game C_Fault C_BadGame C_NoPerson C_NoWorld C_NoChoice) (G_law_due : FnG P w K mg base CX0 1 "_law_due" ["tables", "rows", "door", "person", "outcome", "choice"] (spD K P_due)) (G_law_equal : FnG P w K mg base CX0 4 "_law_equal" ["answer", "due"] (spD K P_equal)) (G_law_door : FnG P w K mg base CX0 6 "_law_door" ["game", "door", "person", "outcome", "choice"] (spD K (P_door C_Game))) : FnG P w K mg base CX0 7 "_law_agrees" ["game", "tables", "rows", "door", "person", "outcome", "choice"] (spD K (P_agrees C_Game)) := by
  refine F.ok (k := 6) sc_law_agrees (fun ds R Z ⟨a, b, c, d, e, g, h, _⟩ => by rw [h] <;> rfl) (fun f cdv A outer s H E hr => ?_)
  refine ⟨_,
    (pss_cons (sv 7 sc_law_agrees.nd (pe_g G_law_due hr.le pass0 (pa_cons (pv 1) (pa_cons (pv 2) (pa_cons (pv 3) (pa_cons (pv 4) (pa_cons (pv 5) (pa_cons (pv 6) pa_nil))))))))
    (pss_one (ps_ret (pe_g G_law_equal hr.le pass0 (pa_cons (pe_g G_law_door hr.le pass0 (pa_cons (pv 0) (pa_cons (pv 3) (pa_cons (pv 4) (pa_cons (pv 5) (pa_cons (pv 6) pa_nil)))))) (pa_cons (pv 7) pa_nil)))))), fun ds R Z p => ?_⟩
  obtain ⟨cs, pays, door, q, o, c, rfl, hf, p⟩ := p
  refine ws_to (ρ' := [.im (gameD C_Game ⟨cs, pays⟩), .im (tabG cs pays), .im (rowsD (rowsOf cs)), .im (.int door), .im (.int q), .im (.int o), .im (.int c), .no]) rfl ?_
  walk_at "go"
  refine wq_asg (d := toldD (dueL cs pays door q o c)) (ev_call (ea_cons (ev_var rfl) (ea_cons (ev_var rfl) (ea_cons (ev_var rfl) (ea_cons (ev_var rfl) (ea_cons (ev_var rfl) (ea_cons (ev_var rfl) ea_nil)))))) ⟨cs, pays, door, q, o, c, rfl, hf, rfl⟩) ?_
  dsimp only [List.set]
  exact ws_ret (ev_call (ea_cons (ev_call (z := toldD (dueL cs pays door q o c)) (ea_cons (ev_var rfl) (ea_cons (ev_var rfl) (ea_cons (ev_var rfl) (ea_cons (ev_var rfl) (ea_cons (ev_var rfl) ea_nil))))) ⟨cs, pays, door, q, o, c, rfl, hf, rfl⟩) (ea_cons (ev_var rfl) ea_nil)) ⟨_, _, rfl, rfl⟩) p
end
end FS
set_option Elab.async false
set_option linter.all false
set_option maxRecDepth 100000
set_option maxHeartbeats 4000000
set_option exponentiation.threshold 20000
namespace FS
open PySem PySem.Spec PyProof.Rows L2

local macro_rules | `(tactic| walk_at "side") => `(tactic| first | assumption | omega | decide)
local macro_rules | `(tactic| walk_at "hv") => `(tactic| (intro i hi; simp at hi; first | (subst hi; rfl) | (rcases hi with rfl | rfl <;> rfl) | (rcases hi with rfl | rfl | rfl <;> rfl)))
local macro_rules | `(tactic| walk_at "pr") => `(tactic| fail "no promise")
local macro_rules | `(tactic| walk_at "rv") => `(tactic| first
  | (with_reducible exact rv_add) | (with_reducible exact rv_sub) | (with_reducible exact rv_lt) | (with_reducible exact rv_le) | (with_reducible exact rv_gt) | (with_reducible exact rv_ge) | (with_reducible exact rv_eq) | (with_reducible exact rv_ne)
  | (with_reducible exact rv_is) | (with_reducible exact rv_isnot)
  | ((with_reducible apply rv_div); first | assumption | exact cdiv_small (by omega) (by omega))
  | ((with_reducible apply rv_mod); first | assumption | omega)
  | ((with_reducible apply rv_mul); first | assumption | exact cmul_left (by omega) | exact cmul_right (by omega))
  | ((with_reducible apply rv_mulW); assumption)
  | (with_reducible exact rv_p8) | (with_reducible exact rv_p18) | (with_reducible exact rv_p40) | (with_reducible exact rv_p20) | (with_reducible exact rv_p6) | (with_reducible exact rv_p7) | (with_reducible exact rv_p12) | (with_reducible exact rv_p25) | (with_reducible exact rv_p30) | (with_reducible exact rv_p39) | (with_reducible exact rv_p60)
  | ((with_reducible apply rv_ixxL); first | assumption | exact at_getD (by omega) (by omega) | exact at_nat rfl)
  | ((with_reducible apply rv_ixxT); first | assumption | exact at_getD (by omega) (by omega) | exact at_nat rfl)
  | ((with_reducible apply rv_ixxC); first | assumption)
  | (with_reducible exact ru_neg))
local macro_rules | `(tactic| walk_at "isi") => `(tactic| first | (with_reducible exact isi_non_int) | (with_reducible exact isi_non_bool) | (with_reducible exact isi_non_str) | (with_reducible exact isi_non_tuple) | (with_reducible exact isi_non_list) | (with_reducible exact isi_bl_int) | (with_reducible exact isi_bl_bool) | (with_reducible exact isi_bl_str) | (with_reducible exact isi_bl_tuple) | (with_reducible exact isi_bl_list) | (with_reducible exact isi_int_int) | (with_reducible exact isi_int_bool) | (with_reducible exact isi_int_str) | (with_reducible exact isi_int_tuple) | (with_reducible exact isi_int_list) | (with_reducible exact isi_str_int) | (with_reducible exact isi_str_bool) | (with_reducible exact isi_str_str) | (with_reducible exact isi_str_tuple) | (with_reducible exact isi_str_list) | (with_reducible exact isi_tup_int) | (with_reducible exact isi_tup_bool) | (with_reducible exact isi_tup_str) | (with_reducible exact isi_tup_tuple) | (with_reducible exact isi_tup_list) | (with_reducible exact isi_lst_int) | (with_reducible exact isi_lst_bool) | (with_reducible exact isi_lst_str) | (with_reducible exact isi_lst_tuple) | (with_reducible exact isi_lst_list))
local macro_rules | `(tactic| walk_at "rc") => `(tactic| first
  | walk_at "isi"
  | (with_reducible exact rc_len) | (with_reducible exact rc_lent) | (with_reducible exact rc_lenc) | (with_reducible exact rc_toint) | (with_reducible exact rc_absv) | (with_reducible exact rc_gcd)
  | ((with_reducible apply rc_lcm); assumption)
  | ((with_reducible apply rc_isi); (focus rfl); assumption)
  | (with_reducible exact rco_list) | (with_reducible exact rco_listT))
local macro_rules | `(tactic| walk_at "ev") => `(tactic| first
  | (with_reducible exact ev_int) | (with_reducible exact ev_bl) | (with_reducible exact ev_non) | (with_reducible exact ev_str) | (with_reducible exact ev_ty)
  | ((with_reducible apply ev_var); rfl)
  | ((with_reducible apply ev_lenOw); rfl)
  | ((with_reducible apply ev_op) <;> first | walk_at "ev" | walk_at "rv")
  | ((with_reducible apply ev_un) <;> first | walk_at "ev" | walk_at "rv")
  | ((with_reducible apply ev_cb) <;> first | walk_at "ev" | walk_at "rc")
  | ((with_reducible apply ev_call) <;> first | walk_at "ev" | walk_at "pr")
  | ((with_reducible apply ev_tup) <;> first | walk_at "ev" | (simp; done))
  | (with_reducible exact ea_nil)
  | ((with_reducible apply ea_cons) <;> walk_at "ev")
  | ((with_reducible apply et_test); walk_at "ev")
  | ((with_reducible apply et_B); walk_at "ev")
  | ((with_reducible apply et_not); walk_at "ev")
  | ((with_reducible apply et_or); (walk_at "ev"); intro _; walk_at "ev")
  | ((with_reducible apply et_and); (walk_at "ev"); intro _; walk_at "ev")
  | ((with_reducible apply ev_orV); (walk_at "ev"); intro _; walk_at "ev")
  | ((with_reducible apply ev_andV); (walk_at "ev"); intro _; walk_at "ev")
  | ((with_reducible apply ev_notV); walk_at "ev")
  | (with_reducible exact et_yes)
  | ((with_reducible apply evo_lst) <;> first | walk_at "ev" | (simp; done))
  | ((with_reducible apply ev_opO) <;> first | walk_at "ev" | ((with_reducible apply rvo_add); simp; omega))
  | ((with_reducible apply ev_cbO) <;> first | walk_at "ev" | walk_at "rc")
  | ((with_reducible apply ev_callO) <;> first | walk_at "ev" | walk_at "pr")
  | ((with_reducible apply ec_call) <;> first | walk_at "ev" | walk_at "pr")
  | ((with_reducible apply ec_tup) <;> first | walk_at "ev" | (simp; done))
  | ((with_reducible apply ec_lst) <;> first | walk_at "ev" | (simp; done))
  | (with_reducible exact eca_nil)
  | ((with_reducible apply eca_cons) <;> walk_at "ev")
  | ((with_reducible apply ec_sc); (walk_at "ev"); rfl)
  | ((with_reducible apply ec_ow); (walk_at "ev"); first | assumption | (intro d hd; simp at hd; done))
  | ((with_reducible apply ec_fz); walk_at "ev")
  | ((with_reducible apply ev_fz); walk_at "ev"))

local macro_rules | `(tactic| walk_at "im") => `(tactic| ((with_reducible apply wq_asg); walk_at "ev"; (try dsimp only [List.set, Int.reduceToNat])))
local macro_rules | `(tactic| walk_at "ow") => `(tactic| ((with_reducible apply wq_asgO); walk_at "ev"; (focus (first | decide | (simp; done))); (try dsimp only [List.set, Int.reduceToNat])))
local macro_rules | `(tactic| walk_at "cl") => `(tactic| ((with_reducible apply wq_asgC); walk_at "ev"; (focus (first | decide | (simp; done))); (try dsimp only [List.set, Int.reduceToNat])))
local macro_rules | `(tactic| walk_at "if") => `(tactic| ((first | (with_reducible apply wq_when) | (with_reducible apply wq_if) | (with_reducible apply ws_if)); walk_at "ev"; (try dsimp only [Int.reduceToNat])))
local macro_rules | `(tactic| walk_at "ret") => `(tactic| ((with_reducible apply ws_ret); walk_at "ev"))
local macro_rules | `(tactic| walk_at "go") => `(tactic| (try dsimp only [cxOf, L2.Cx.nox, L2.Cx.wish, L2.Cx.blk]))
local macro_rules | `(tactic| walk_at "ints") => `(tactic| (refine ev_fz (evo_lst ?_ (by decide)); repeat (first | exact ea_nil | refine ea_cons ev_int ?_)))

/-! ### _law_asked -/
theorem plL_of {n : Nat} : ∀ {l : List D}, (∀ d ∈ l, D.pl n d = true) → D.plL n l = true
  | [], _ => by simp [D.plL]
  | d :: l, h => by rw [D.plL, h d List.mem_cons_self, plL_of fun x hx => h x (List.mem_cons_of_mem _ hx)] <;> rfl
theorem pl_lst {n : Nat} {l : List D} (h : ∀ d ∈ l, D.pl n d = true) (hl : l.length ≤ 100000) : D.pl (n + 1) (.lst l) = true := by
  rw [D.pl, plL_of h, decide_eq_true hl] <;> rfl
theorem pl_ints {n : Nat} {l : List Int} (hl : l.length ≤ 100000) : D.pl (n + 1) (intsD l) = true := pl_lst (fun d hd => by
  obtain ⟨x, _, rfl⟩ := List.mem_map.mp hd
  cases n <;> rfl) (by rw [List.length_map]; exact hl)
def sightsL (cs : List Int) : List D := (List.range cs.length).map fun q => intsD ((List.range (prodI cs).toNat).map fun o : Nat => chosenN cs q (o : Int))
def sightsD (cs : List Int) : D := .lst (sightsL cs)
theorem pl_sights {cs : List Int} (h : FitC cs) : D.pl 2 (sightsD cs) = true := by
  have h1 := h.1
  have h12 := h.2.2
  have hp := fit_pos h
  refine pl_lst (fun d hd => ?_) (by rw [sightsL, List.length_map, List.length_range]; omega)
  obtain ⟨q, _, rfl⟩ := List.mem_map.mp hd
  exact pl_ints (by rw [List.length_map, List.length_range]; omega)
theorem rowsD_eq {cs : List Int} (h : FitC cs) : rowsD (rowsOf cs) = .lst ((allO cs).map fun o => intsD (rowF cs o)) := by
  rw [rows_eq h, rowsD, List.map_map]
  rfl
section
variable {P : Program} {w : World} {K : PySem.W.Frag} {mg : Str → Option Value} {base : Heap} {C_Game C_Fault C_BadGame C_NoPerson C_NoWorld C_NoChoice : Addr}
def P_asked (C : Addr) : PrD := fun ds R _ => ∃ (cs : List Int) (pays : List (List Int)), ds = [gameD C ⟨cs, pays⟩, tabG cs pays, rowsD (rowsOf cs)] ∧ Fits cs pays ∧ R (.im (.bl true))
theorem ok_asked (F : Df K mg "_law_asked" s_law_asked ["game", "tables", "rows"]) (gm : Gm K mg C_Game C_Fault C_BadGame C_NoPerson C_NoWorld C_NoChoice) (G_law_same : FnG P w K mg base CX0 3 "_law_same" ["actual", "due"] (spD K (P_same' 3))) (G_Game_choices : FnM P w K mg base CX0 1 C_Game "choices" ["self"] (spD K (P_choices C_Game))) (G_Game_sights : FnM P w K mg base CX0 5 C_Game "sights" ["self"] (spD K (P_sights C_Game))) (G_law_agrees : FnG P w K mg base CX0 7 "_law_agrees" ["game", "tables", "rows", "door", "person", "outcome", "choice"] (spD K (P_agrees C_Game))) : FnG P w K mg base CX0 8 "_law_asked" ["game", "tables", "rows"] (spD K (P_asked C_Game)) := by
  refine F.ok (k := 7) sc_law_asked (fun ds R Z ⟨a, b, e, _⟩ => by rw [e] <;> rfl) (fun f cdv A outer s H E hr => ?_)
  refine ⟨_,
    (pss_cons (sv 3 sc_law_asked.nd (cb (kLen K) gm.len (pa_cons (ix K (pv 1) pe_int) pa_nil)))
    (pss_cons (ps_if (PW.pt (pw_or (pt_not (pt_val (pe_g G_law_same hr.le pass0 (pa_cons (fl K (pv 0)) (pa_cons (pv 3) pa_nil))))) (pw_or1 (pt_not (pt_val (pe_g G_law_same hr.le pass0 (pa_cons (fl K (pv 0)) (pa_cons (cb (kLen K) gm.len (pa_cons (pv 2) pa_nil)) pa_nil)))))))) (pss_one (ps_ret pe_bl)) pss_nil)
    (pss_cons (ps_if (pt_not (pt_val (pe_g G_law_same hr.le pass0 (pa_cons (pe_m0 G_Game_choices gm.Game_c hr.le pass0 (pv 0)) (pa_cons (ix K (pv 1) pe_int) pa_nil))))) (pss_one (ps_ret pe_bl)) pss_nil)
    (pss_cons (ps_if (pt_not (pt_val (pe_g G_law_same hr.le pass0 (pa_cons (pe_m0 G_Game_sights gm.Game_c hr.le pass0 (pv 0)) (pa_cons (pe_lc (own := [("person", 4)]) rfl sc_law_asked.nd (pi_range1 (by rfl) gm.range (pa_cons (pv 3) pa_nil)) (blkOk_by (N := N_law_asked) (sc := defScope s_law_asked) (by decide +kernel)) (fun _ _ _ _ _ => (gn 4 sc_law_asked.nd)) (fun _ _ _ _ _ => pts_nil) (fun _ _ _ _ _ => (pe_lc (own := [("row", 5)]) rfl sc_law_asked.nd (pl K (pv 2)) (blkOk_by (N := N_law_asked) (by kernel_rfl)) (fun _ _ _ _ _ => (gn 5 sc_law_asked.nd)) (fun _ _ _ _ _ => pts_nil) (fun _ _ _ _ _ => (ix K (pv 5) (pv 4)))))) pa_nil))))) (pss_one (ps_ret pe_bl)) pss_nil)
    (pss_cons (ps_for PassesOwn.never rfl (pi_range1 (by rfl) gm.range (pa_cons (pv 3) pa_nil)) (gn 4 sc_law_asked.nd) (pss_one (ps_for PassesOwn.never rfl (pi_range1 (by rfl) gm.range (pa_cons (cb (kLen K) gm.len (pa_cons (pv 2) pa_nil)) pa_nil)) (gn 6 sc_law_asked.nd) (pss_cons (ps_for PassesOwn.never rfl (pi_range1 (by rfl) gm.range (pa_cons pe_int pa_nil)) (gn 7 sc_law_asked.nd) (pss_one (ps_if (pt_not (pt_val (pe_g G_law_agrees hr.le pass0 (pa_cons (pv 0) (pa_cons (pv 1) (pa_cons (pv 2) (pa_cons (pv 7) (pa_cons (pv 4) (pa_cons (pv 6) (pa_cons pe_int pa_nil)))))))))) (pss_one (ps_ret pe_bl)) pss_nil))) (pss_one (ps_for PassesOwn.never rfl (pi_range1 (by rfl) gm.range (pa_cons (ix K (ix K (pv 1) pe_int) (pv 4)) pa_nil)) (gn 8 sc_law_asked.nd) (pss_one (ps_if (pt_not (pt_val (pe_g G_law_agrees hr.le pass0 (pa_cons (pv 0) (pa_cons (pv 1) (pa_cons (pv 2) (pa_cons pe_int (pa_cons (pv 4) (pa_cons (pv 6) (pa_cons (pv 8) pa_nil)))))))))) (pss_one (ps_ret pe_bl)) pss_nil))))))))
    (pss_one (ps_ret pe_bl))))))), fun ds R Z p => ?_⟩
  obtain ⟨cs, pays, rfl, hf, p⟩ := p
  refine ws_to (ρ' := [.im (gameD C_Game ⟨cs, pays⟩), .im (tabG cs pays), .im (rowsD (rowsOf cs)), .no, .no, .no, .no, .no, .no]) rfl ?_
  walk_at "go"
  have hcl := hf.1.1
  have h12 := hf.1.2.2
  have hpos := fit_pos hf.1
  have hrl := rows_len hf.1
  have ept : prodI cs = (((prodI cs).toNat : Nat) : Int) := by omega
  have lenR : ∀ ρ : Rho, ρ[2]? = some (.im (rowsD (rowsOf cs))) → EvD K (tCB (rLenA K) (tCons (tVar 2) tNil)) ρ (.int (prodI cs)) := fun ρ e => (ev_cb (ea_cons (ev_var e) ea_nil) rc_len).is (by rw [List.length_map, hrl])
  have tab0 : ∀ ρ : Rho, ρ[1]? = some (.im (tabG cs pays)) → EvD K (tOp (rIx K) (tVar 1) (tC (.int 0))) ρ (intsD cs) := fun ρ e => ev_op (ev_var e) ev_int (rv_ixxL (at_nat (j := 0) rfl))
  refine wq_asg (d := .int (cs.length : Int)) ((ev_cb (ea_cons (tab0 _ rfl) ea_nil) rc_len).is (by rw [List.length_map])) ?_
  dsimp only [List.set]
  refine wq_noif (et_or (et_not (et_B (ev_call (ea_cons (ev_fld (l := gameL ⟨cs, pays⟩) (ns := gameNs) (j := 1) (ev_var rfl) (by decide) rfl gm.Game_c gm.Game_people) (ea_cons (ev_var rfl) ea_nil)) (pr_same (n := 2) (y := .int (cs.length : Int)) (by rfl))))) fun _ => et_not (et_B (ev_call (ea_cons (ev_fld (l := gameL ⟨cs, pays⟩) (ns := gameNs) (j := 0) (ev_var rfl) (by decide) rfl gm.Game_c gm.Game_outcomes) (ea_cons (lenR _ rfl) ea_nil)) (pr_same (n := 2) (y := .int (prodI cs)) (by rfl))))) rfl ?_
  refine wq_noif (et_not (et_B (ev_call (ea_cons (ec_fz (ec_meth (l := gameL ⟨cs, pays⟩) (ns := gameNs) (ev_var rfl) (by decide) ea_nil pr_choices)) (ea_cons (tab0 _ rfl) ea_nil)) (pr_same (n := 2) (y := intsD cs) (pl_ints (by omega)))))) rfl ?_
  refine wq_noif (et_not (et_B (ev_call (ea_cons (ec_fz (ec_meth (z := sightsD cs) (l := gameL ⟨cs, pays⟩) (ns := gameNs) (ev_var rfl) (by decide) ea_nil ⟨⟨cs, pays⟩, rfl, hf.1, rfl⟩)) (ea_cons ((ev_fz (lc_N (n := cs.length) (fun q => intsD ((List.range (prodI cs).toNat).map fun o : Nat => chosenN cs q (o : Int))) (ea_cons (ev_var rfl) ea_nil) rfl (fun q hq => ?_) (by omega))).is rfl) ea_nil)) (pr_same (n := 2) (y := sightsD cs) (pl_sights hf.1))))) rfl ?_
  · dsimp only [List.set]
    refine (ev_fz (lc_L (xs := allO cs) (enc := fun o => intsD (rowF cs o)) (fun o => D.int (chosenN cs q o)) ((ev_var rfl).is (rowsD_eq hf.1)) rfl (fun o ho => ?_) (by rw [allO, List.length_map, List.length_range]; omega))).is ?_
    · dsimp only [List.set]
      exact ev_op (ev_var rfl) (ev_var rfl) (rv_ixxL (at_map (f := D.int) (row_at hq)))
    · rw [allO, intsD, List.map_map, List.map_map]
      rfl
  have agr : ∀ (ρ : Rho) (ta : TA) (door q o c : Int), EvA K ta ρ [gameD C_Game ⟨cs, pays⟩, tabG cs pays, rowsD (rowsOf cs), .int door, .int q, .int o, .int c] → EvD K (tCall (spD K (P_agrees C_Game)) [] E0 ta) ρ (.bl true) := fun ρ ta door q o c h => ev_call h ⟨cs, pays, door, q, o, c, rfl, hf, rfl⟩
  refine wq_forN (n := cs.length) (ea_cons (ev_var rfl) ea_nil) (by omega) (fun i u => ∃ s4 s6 s7 s8, u = [(4, s4), (6, s6), (7, s7), (8, s8)]) ⟨_, ⟨_, _, _, _, rfl⟩, rfl⟩ ?_ ?_
  · rintro q u hq ⟨s4, s6, s7, s8, rfl⟩
    dsimp only [up, List.set]
    refine ws_forN (n := (prodI cs).toNat) (ea_cons ((lenR _ rfl).is (by rw [← ept])) ea_nil) (by omega) (fun i u => ∃ s6 s7 s8, u = [(6, s6), (7, s7), (8, s8)]) ⟨_, ⟨_, _, _, rfl⟩, rfl⟩ ?_ ?_
    · rintro o u ho ⟨s6, s7, s8, rfl⟩
      dsimp only [up, List.set]
      refine wq_forN (n := 2) (ea_cons (ev_int.is rfl) ea_nil) (by omega) (fun i u => ∃ s7, u = [(7, s7)]) ⟨_, ⟨_, rfl⟩, rfl⟩ ?_ ?_
      · rintro d u hd ⟨s7, rfl⟩
        dsimp only [up, List.set]
        exact ws_ifF (et_not (et_B (agr _ _ _ _ _ _ (ea_cons (ev_var rfl) (ea_cons (ev_var rfl) (ea_cons (ev_var rfl) (ea_cons (ev_var rfl) (ea_cons (ev_var rfl) (ea_cons (ev_var rfl) (ea_cons ev_int ea_nil)))))))))) rfl (ws_next ⟨_, ⟨_, rfl⟩, rfl⟩)
      · rintro u ⟨s7, rfl⟩
        dsimp only [up, List.set]
        have hc0 := (fit_step hf.1 hq).2.2
        have ec : cs.getD q 0 = (((cs.getD q 0).toNat : Nat) : Int) := by omega
        refine ws_forN (n := (cs.getD q 0).toNat) (ea_cons ((ev_op (tab0 _ rfl) (ev_var rfl) (rv_ixxL (at_ints hq))).is (by rw [← ec])) ea_nil) (by omega) (fun i u => ∃ s8, u = [(8, s8)]) ⟨_, ⟨_, rfl⟩, rfl⟩ ?_ ?_
        · rintro c u hc ⟨s8, rfl⟩
          dsimp only [up, List.set]
          exact ws_ifF (et_not (et_B (agr _ _ _ _ _ _ (ea_cons (ev_var rfl) (ea_cons (ev_var rfl) (ea_cons (ev_var rfl) (ea_cons ev_int (ea_cons (ev_var rfl) (ea_cons (ev_var rfl) (ea_cons (ev_var rfl) ea_nil)))))))))) rfl (ws_next ⟨_, ⟨_, rfl⟩, rfl⟩)
        · rintro u ⟨s8, rfl⟩
          exact ⟨_, ⟨_, _, _, rfl⟩, rfl⟩
    · rintro u ⟨s6, s7, s8, rfl⟩
      exact ⟨_, ⟨_, _, _, _, rfl⟩, rfl⟩
  · rintro u ⟨s4, s6, s7, s8, rfl⟩
    dsimp only [up, List.set]
    exact ws_ret ev_bl p
end
end FS
set_option Elab.async false
set_option linter.all false
set_option maxRecDepth 100000
set_option maxHeartbeats 4000000
set_option exponentiation.threshold 20000
namespace FS
open PySem PySem.Spec PyProof.Rows L2

local macro_rules | `(tactic| walk_at "side") => `(tactic| first | assumption | omega | decide)
local macro_rules | `(tactic| walk_at "hv") => `(tactic| (intro i hi; simp at hi; first | (subst hi; rfl) | (rcases hi with rfl | rfl <;> rfl) | (rcases hi with rfl | rfl | rfl <;> rfl)))
local macro_rules | `(tactic| walk_at "pr") => `(tactic| fail "no promise")
local macro_rules | `(tactic| walk_at "rv") => `(tactic| first
  | (with_reducible exact rv_add) | (with_reducible exact rv_sub) | (with_reducible exact rv_lt) | (with_reducible exact rv_le) | (with_reducible exact rv_gt) | (with_reducible exact rv_ge) | (with_reducible exact rv_eq) | (with_reducible exact rv_ne)
  | (with_reducible exact rv_is) | (with_reducible exact rv_isnot)
  | ((with_reducible apply rv_div); first | assumption | exact cdiv_small (by omega) (by omega))
  | ((with_reducible apply rv_mod); first | assumption | omega)
  | ((with_reducible apply rv_mul); first | assumption | exact cmul_left (by omega) | exact cmul_right (by omega))
  | ((with_reducible apply rv_mulW); assumption)
  | (with_reducible exact rv_p8) | (with_reducible exact rv_p18) | (with_reducible exact rv_p40) | (with_reducible exact rv_p20) | (with_reducible exact rv_p6) | (with_reducible exact rv_p7) | (with_reducible exact rv_p12) | (with_reducible exact rv_p25) | (with_reducible exact rv_p30) | (with_reducible exact rv_p39) | (with_reducible exact rv_p60)
  | ((with_reducible apply rv_ixxL); first | assumption | exact at_getD (by omega) (by omega) | exact at_nat rfl)
  | ((with_reducible apply rv_ixxT); first | assumption | exact at_getD (by omega) (by omega) | exact at_nat rfl)
  | ((with_reducible apply rv_ixxC); first | assumption)
  | (with_reducible exact ru_neg))
local macro_rules | `(tactic| walk_at "isi") => `(tactic| first | (with_reducible exact isi_non_int) | (with_reducible exact isi_non_bool) | (with_reducible exact isi_non_str) | (with_reducible exact isi_non_tuple) | (with_reducible exact isi_non_list) | (with_reducible exact isi_bl_int) | (with_reducible exact isi_bl_bool) | (with_reducible exact isi_bl_str) | (with_reducible exact isi_bl_tuple) | (with_reducible exact isi_bl_list) | (with_reducible exact isi_int_int) | (with_reducible exact isi_int_bool) | (with_reducible exact isi_int_str) | (with_reducible exact isi_int_tuple) | (with_reducible exact isi_int_list) | (with_reducible exact isi_str_int) | (with_reducible exact isi_str_bool) | (with_reducible exact isi_str_str) | (with_reducible exact isi_str_tuple) | (with_reducible exact isi_str_list) | (with_reducible exact isi_tup_int) | (with_reducible exact isi_tup_bool) | (with_reducible exact isi_tup_str) | (with_reducible exact isi_tup_tuple) | (with_reducible exact isi_tup_list) | (with_reducible exact isi_lst_int) | (with_reducible exact isi_lst_bool) | (with_reducible exact isi_lst_str) | (with_reducible exact isi_lst_tuple) | (with_reducible exact isi_lst_list))
local macro_rules | `(tactic| walk_at "rc") => `(tactic| first
  | walk_at "isi"
  | (with_reducible exact rc_len) | (with_reducible exact rc_lent) | (with_reducible exact rc_lenc) | (with_reducible exact rc_toint) | (with_reducible exact rc_absv) | (with_reducible exact rc_gcd)
  | ((with_reducible apply rc_lcm); assumption)
  | ((with_reducible apply rc_isi); (focus rfl); assumption)
  | (with_reducible exact rco_list) | (with_reducible exact rco_listT))
local macro_rules | `(tactic| walk_at "ev") => `(tactic| first
  | (with_reducible exact ev_int) | (with_reducible exact ev_bl) | (with_reducible exact ev_non) | (with_reducible exact ev_str) | (with_reducible exact ev_ty)
  | ((with_reducible apply ev_var); rfl)
  | ((with_reducible apply ev_lenOw); rfl)
  | ((with_reducible apply ev_op) <;> first | walk_at "ev" | walk_at "rv")
  | ((with_reducible apply ev_un) <;> first | walk_at "ev" | walk_at "rv")
  | ((with_reducible apply ev_cb) <;> first | walk_at "ev" | walk_at "rc")
  | ((with_reducible apply ev_call) <;> first | walk_at "ev" | walk_at "pr")
  | ((with_reducible apply ev_tup) <;> first | walk_at "ev" | (simp; done))
  | (with_reducible exact ea_nil)
  | ((with_reducible apply ea_cons) <;> walk_at "ev")
  | ((with_reducible apply et_test); walk_at "ev")
  | ((with_reducible apply et_B); walk_at "ev")
  | ((with_reducible apply et_not); walk_at "ev")
  | ((with_reducible apply et_or); (walk_at "ev"); intro _; walk_at "ev")
  | ((with_reducible apply et_and); (walk_at "ev"); intro _; walk_at "ev")
  | ((with_reducible apply ev_orV); (walk_at "ev"); intro _; walk_at "ev")
  | ((with_reducible apply ev_andV); (walk_at "ev"); intro _; walk_at "ev")
  | ((with_reducible apply ev_notV); walk_at "ev")
  | (with_reducible exact et_yes)
  | ((with_reducible apply evo_lst) <;> first | walk_at "ev" | (simp; done))
  | ((with_reducible apply ev_opO) <;> first | walk_at "ev" | ((with_reducible apply rvo_add); simp; omega))
  | ((with_reducible apply ev_cbO) <;> first | walk_at "ev" | walk_at "rc")
  | ((with_reducible apply ev_callO) <;> first | walk_at "ev" | walk_at "pr")
  | ((with_reducible apply ec_call) <;> first | walk_at "ev" | walk_at "pr")
  | ((with_reducible apply ec_tup) <;> first | walk_at "ev" | (simp; done))
  | ((with_reducible apply ec_lst) <;> first | walk_at "ev" | (simp; done))
  | (with_reducible exact eca_nil)
  | ((with_reducible apply eca_cons) <;> walk_at "ev")
  | ((with_reducible apply ec_sc); (walk_at "ev"); rfl)
  | ((with_reducible apply ec_ow); (walk_at "ev"); first | assumption | (intro d hd; simp at hd; done))
  | ((with_reducible apply ec_fz); walk_at "ev")
  | ((with_reducible apply ev_fz); walk_at "ev"))

local macro_rules | `(tactic| walk_at "im") => `(tactic| ((with_reducible apply wq_asg); walk_at "ev"; (try dsimp only [List.set, Int.reduceToNat])))
local macro_rules | `(tactic| walk_at "ow") => `(tactic| ((with_reducible apply wq_asgO); walk_at "ev"; (focus (first | decide | (simp; done))); (try dsimp only [List.set, Int.reduceToNat])))
local macro_rules | `(tactic| walk_at "cl") => `(tactic| ((with_reducible apply wq_asgC); walk_at "ev"; (focus (first | decide | (simp; done))); (try dsimp only [List.set, Int.reduceToNat])))
local macro_rules | `(tactic| walk_at "if") => `(tactic| ((first | (with_reducible apply wq_when) | (with_reducible apply wq_if) | (with_reducible apply ws_if)); walk_at "ev"; (try dsimp only [Int.reduceToNat])))
local macro_rules | `(tactic| walk_at "ret") => `(tactic| ((with_reducible apply ws_ret); walk_at "ev"))
local macro_rules | `(tactic| walk_at "go") => `(tactic| (try dsimp only [cxOf, L2.Cx.nox, L2.Cx.wish, L2.Cx.blk]))
local macro_rules | `(tactic| walk_at "ints") => `(tactic| (refine ev_fz (evo_lst ?_ (by decide)); repeat (first | exact ea_nil | refine ea_cons ev_int ?_)))

section
variable {P : Program} {w : World} {K : PySem.W.Frag} {mg : Str → Option Value} {base : Heap} {C_Game C_Fault C_BadGame C_NoPerson C_NoWorld C_NoChoice : Addr}
/-! ### _law_refused -/
def P_refused (C : Addr) : PrD := fun ds R _ => ∃ (cs : List Int) (pays : List (List Int)) (dr : List Int), ds = [gameD C ⟨cs, pays⟩, tabG cs pays, rowsD (rowsOf cs), intsD dr] ∧ Fits cs pays ∧ dr.length = 11 ∧ (∀ i, i < 11 → 0 ≤ dr.getD i 0 ∧ dr.getD i 0 < szB.getD i 0) ∧ R (.im (.bl true))
theorem ok_refused (F : Df K mg "_law_refused" s_law_refused ["game", "tables", "rows", "drawn"]) (gm : Gm K mg C_Game C_Fault C_BadGame C_NoPerson C_NoWorld C_NoChoice) (G_law_agrees : FnG P w K mg base CX0 7 "_law_agrees" ["game", "tables", "rows", "door", "person", "outcome", "choice"] (spD K (P_agrees C_Game))) : FnG P w K mg base CX0 8 "_law_refused" ["game", "tables", "rows", "drawn"] (spD K (P_refused C_Game)) := by
  refine F.ok (k := 7) sc_law_refused (fun ds R Z ⟨a, b, c, e, _⟩ => by rw [e] <;> rfl) (fun f cdv A outer s H E hr => ?_)
  refine ⟨_,
    (pss_cons (sv 4 sc_law_refused.nd (pe_op opMod (ct cInt gm.int (pa_cons (ix K (pv 3) pe_int) pa_nil)) (cb (kLen K) gm.len (pa_cons (ix K (pv 1) pe_int) pa_nil))))
    (pss_cons (sv 5 sc_law_refused.nd (pe_op opMod (ct cInt gm.int (pa_cons (ix K (pv 3) pe_int) pa_nil)) (cb (kLen K) gm.len (pa_cons (pv 2) pa_nil))))
    (pss_cons (sv 6 sc_law_refused.nd (ix K (ix K (pv 1) pe_int) (pv 4)))
    (pss_cons (sv 7 sc_law_refused.nd (pe_lst (pa_cons (pv 4) (pa_cons (pv 5) (pa_cons (pe_op opMod (ct cInt gm.int (pa_cons (ix K (pv 3) pe_int) pa_nil)) (pv 6)) pa_nil)))))
    (pss_cons (sv 8 sc_law_refused.nd (pe_lst pa_nil))
    (pss_cons (ps_for PassesOwn.never rfl (pi_range1 (by rfl) gm.range (pa_cons pe_int pa_nil)) (gn 9 sc_law_refused.nd) (pss_cons (sv 10 sc_law_refused.nd (ix K (pe_lst (pa_cons (cb (kLen K) gm.len (pa_cons (ix K (pv 1) pe_int) pa_nil)) (pa_cons (cb (kLen K) gm.len (pa_cons (pv 2) pa_nil)) (pa_cons (pv 6) pa_nil)))) (pv 9))) (pss_one (ps_expr (ml_append K (pv 8) (pa_cons (ix K (pe_lst (pa_cons (pe_un unNeg pe_int) (pa_cons (pe_un unNeg pe_int) (pa_cons (pv 10) (pa_cons (pe_op (kAdd K) (pv 10) pe_int) pa_nil))))) (ix K (pv 3) (pe_op (kAdd K) pe_int (pv 9)))) pa_nil))))))
    (pss_cons (ps_for PassesOwn.never rfl (pi_range1 (by rfl) gm.range (pa_cons pe_int pa_nil)) (gn 11 sc_law_refused.nd) (pss_cons (sv 12 sc_law_refused.nd (pe_lst pa_nil)) (pss_cons (ps_for PassesOwn.never rfl (pi_range1 (by rfl) gm.range (pa_cons pe_int pa_nil)) (gn 9 sc_law_refused.nd) (pss_one (ps_expr (ml_append K (pv 12) (pa_cons (ix K (pe_lst (pa_cons (ix K (pv 7) (pv 9)) (pa_cons (ix K (pv 8) (pv 9)) pa_nil))) (pe_op opMod (ct cInt gm.int (pa_cons (pe_op opDiv (pv 11) (ix K (pe_lst (pa_cons pe_int (pa_cons pe_int (pa_cons pe_int pa_nil)))) (pv 9))) pa_nil)) pe_int)) pa_nil))))) (pss_one (ps_for PassesOwn.never rfl (pi_range1 (by rfl) gm.range (pa_cons pe_int pa_nil)) (gn 13 sc_law_refused.nd) (pss_one (ps_if (pt_not (pt_val (pe_g G_law_agrees hr.le pass0 (pa_cons (pv 0) (pa_cons (pv 1) (pa_cons (pv 2) (pa_cons (pv 13) (pa_cons (ix K (pv 12) pe_int) (pa_cons (ix K (pv 12) pe_int) (pa_cons (ix K (pv 12) pe_int) pa_nil)))))))))) (pss_one (ps_ret pe_bl)) pss_nil)))))))
    (pss_one (ps_ret pe_bl))))))))), fun ds R Z p => ?_⟩
  obtain ⟨cs, pays, dr, rfl, hf, hdl, hdb, p⟩ := p
  refine ws_to (ρ' := [.im (gameD C_Game ⟨cs, pays⟩), .im (tabG cs pays), .im (rowsD (rowsOf cs)), .im (intsD dr), .no, .no, .no, .no, .no, .no, .no, .no, .no, .no]) rfl ?_
  walk_at "go"
  have hcl := hf.1.1
  have hpos := fit_pos hf.1
  have hrl := rows_len hf.1
  have hat : ∀ i : Nat, i < 11 → atI (dr.map D.int) (i : Int) = some (.int (dr.getD i 0)) := fun i hi => at_ints (by omega)
  have lenR : ∀ ρ : Rho, ρ[2]? = some (.im (rowsD (rowsOf cs))) → EvD K (tCB (rLenA K) (tCons (tVar 2) tNil)) ρ (.int (prodI cs)) := fun ρ e => (ev_cb (ea_cons (ev_var e) ea_nil) rc_len).is (by rw [List.length_map, hrl])
  have tab0 : ∀ ρ : Rho, ρ[1]? = some (.im (tabG cs pays)) → EvD K (tOp (rIx K) (tVar 1) (tC (.int 0))) ρ (intsD cs) := fun ρ e => ev_op (ev_var e) ev_int (rv_ixxL (at_nat (j := 0) rfl))
  have lenP : ∀ ρ : Rho, ρ[1]? = some (.im (tabG cs pays)) → EvD K (tCB (rLenA K) (tCons (tOp (rIx K) (tVar 1) (tC (.int 0))) tNil)) ρ (.int (cs.length : Int)) := fun ρ e => (ev_cb (ea_cons (tab0 ρ e) ea_nil) rc_len).is (by rw [List.length_map])
  refine wq_asg (d := .int (dr.getD 5 0 % cs.length)) (ev_op (ev_cb (ea_cons (ev_op (ev_var rfl) ev_int (rv_ixxL (hat 5 (by decide)))) ea_nil) rc_toint) (lenP _ rfl) (rv_mod (by omega))) ?_
  dsimp only [List.set]
  have hq0 : 0 ≤ dr.getD 5 0 % cs.length ∧ dr.getD 5 0 % cs.length < cs.length := ⟨Int.emod_nonneg _ (by omega), Int.emod_lt_of_pos _ (by omega)⟩
  generalize dr.getD 5 0 % cs.length = q at hq0
  refine wq_asg (d := .int (dr.getD 6 0 % prodI cs)) (ev_op (ev_cb (ea_cons (ev_op (ev_var rfl) ev_int (rv_ixxL (hat 6 (by decide)))) ea_nil) rc_toint) (lenR _ rfl) (rv_mod (by omega))) ?_
  dsimp only [List.set]
  generalize dr.getD 6 0 % prodI cs = o
  have hm0 := (fit_step hf.1 (q := q.toNat) (by omega)).2.2
  refine wq_asg (d := .int (cs.getD q.toNat 0)) (ev_op (tab0 _ rfl) (ev_var rfl) (rv_ixxL (at_getD hq0.1 hq0.2))) ?_
  dsimp only [List.set]
  generalize cs.getD q.toNat 0 = many at hm0
  refine wq_asg (d := intsD [q, o, dr.getD 7 0 % many]) (ev_fz (evo_lst (ea_cons (ev_var rfl) (ea_cons (ev_var rfl) (ea_cons (ev_op (ev_cb (ea_cons (ev_op (ev_var rfl) ev_int (rv_ixxL (hat 7 (by decide)))) ea_nil) rc_toint) (ev_var rfl) (rv_mod (by omega))) ea_nil))) (by simp))) ?_
  dsimp only [List.set]
  generalize hgd : [q, o, dr.getD 7 0 % many] = good
  have hgl : good.length = 3 := by rw [← hgd] <;> rfl
  refine wq_asgO (evo_lst ea_nil (by simp)) (by simp) ?_
  dsimp only [List.set]
  refine wq_forN (n := 3) (ea_cons (ev_int.is rfl) ea_nil) (by omega) (fun i u => ∃ bs : List Int, ∃ s9 s10, u = [(8, .ow (bs.map .int)), (9, s9), (10, s10)] ∧ bs.length = i) ⟨_, ⟨[], _, _, rfl, rfl⟩, rfl⟩ ?_ ?_
  · rintro i u hi ⟨bs, s9, s10, rfl, hbl⟩
    dsimp only [up, List.set]
    refine wq_asg (d := .int ([(cs.length : Int), prodI cs, many].getD i 0)) (ev_op (ev_fz (evo_lst (ea_cons (lenP _ rfl) (ea_cons (lenR _ rfl) (ea_cons (ev_var rfl) ea_nil))) (by simp))) (ev_var rfl) (rv_ixxL (at_ints (ns := [(cs.length : Int), prodI cs, many]) hi))) ?_
    dsimp only [List.set]
    generalize [(cs.length : Int), prodI cs, many].getD i 0 = edge
    have hd8 := hdb (8 + i) (by omega)
    have hz8 : szB.getD (8 + i) 0 = 4 ∨ szB.getD (8 + i) 0 = 4 := by
      have : i = 0 ∨ i = 1 ∨ i = 2 := by omega
      rcases this with rfl | rfl | rfl <;> exact .inl rfl
    have e8 : (8 : Int) + (i : Int) = ((8 + i : Nat) : Int) := by omega
    refine ws_app (i := 8) (l := bs.map .int) (d := .int ([-1, -2, edge, edge + 1].getD (dr.getD (8 + i) 0).toNat 0)) rfl (ev_op (ev_fz (evo_lst (ea_cons (ev_un ev_int ru_neg) (ea_cons (ev_un ev_int ru_neg) (ea_cons (ev_var rfl) (ea_cons (ev_op (ev_var rfl) ev_int rv_add) ea_nil)))) (by simp))) (ev_op (ev_var rfl) (ev_op ev_int (ev_var rfl) rv_add) (rv_ixxL (by rw [e8]; exact hat (8 + i) (by omega)))) (rv_ixxL (at_getD (ns := [-1, -2, edge, edge + 1]) hd8.1 (by show _ < (4 : Int); omega)))) (by rw [List.length_map]; omega) ⟨_, ⟨bs ++ [[-1, -2, edge, edge + 1].getD (dr.getD (8 + i) 0).toNat 0], .im (.int (i : Int)), .im (.int edge), rfl, by rw [List.length_append, hbl] <;> rfl⟩, ?_⟩
    dsimp only [up, List.set]
    rw [List.map_append]
    rfl
  rintro u ⟨bad, s9, s10, rfl, hbl⟩
  dsimp only [up, List.set]
  refine ws_fz (i := 8) rfl ?_
  dsimp only [List.set]
  refine wq_forN (n := 8) (ea_cons (ev_int.is rfl) ea_nil) (by omega) (fun i u => ∃ s9 s11 s12 s13, u = [(9, s9), (11, s11), (12, s12), (13, s13)]) ⟨_, ⟨_, _, _, _, rfl⟩, rfl⟩ ?_ ?_
  · rintro mask u hmask ⟨s9, s11, s12, s13, rfl⟩
    dsimp only [up, List.set]
    refine wq_asgO (evo_lst ea_nil (by simp)) (by simp) ?_
    dsimp only [List.set]
    refine wq_forN (n := 3) (ea_cons (ev_int.is rfl) ea_nil) (by omega) (fun i u => ∃ as : List Int, ∃ s9, u = [(9, s9), (12, .ow (as.map .int))] ∧ as.length = i) ⟨_, ⟨[], _, rfl, rfl⟩, rfl⟩ ?_ ?_
    · rintro i u hi ⟨as, s9, rfl, hal⟩
      dsimp only [up, List.set]
      have hdv : 0 < ([1, 2, 4] : List Int).getD i 0 ∧ ([1, 2, 4] : List Int).getD i 0 < 2 ^ 62 := by
        have : i = 0 ∨ i = 1 ∨ i = 2 := by omega
        rcases this with rfl | rfl | rfl <;> decide
      refine ws_app (i := 12) (l := as.map .int) (d := .int ([good.getD i 0, bad.getD i 0].getD ((mask : Int) / ([1, 2, 4] : List Int).getD i 0 % 2).toNat 0)) rfl (ev_op (ev_fz (evo_lst (ea_cons (ev_op (ev_var rfl) (ev_var rfl) (rv_ixxL (at_ints (by omega)))) (ea_cons (ev_op (ev_var rfl) (ev_var rfl) (rv_ixxL (at_ints (by omega)))) ea_nil)) (by simp))) (ev_op (ev_cb (ea_cons (ev_op (ev_var rfl) (ev_op (ev_fz (evo_lst (ea_cons ev_int (ea_cons ev_int (ea_cons ev_int ea_nil))) (by simp))) (ev_var rfl) (rv_ixxL (at_ints (ns := [1, 2, 4]) hi))) (rv_div (cdiv_small hdv.1 hdv.2))) ea_nil) rc_toint) ev_int (rv_mod (by omega))) (rv_ixxL (at_getD (ns := [good.getD i 0, bad.getD i 0]) (Int.emod_nonneg _ (by omega)) (Int.emod_lt_of_pos _ (by show (0 : Int) < 2; omega))))) (by rw [List.length_map]; omega) ⟨_, ⟨as ++ [[good.getD i 0, bad.getD i 0].getD ((mask : Int) / ([1, 2, 4] : List Int).getD i 0 % 2).toNat 0], .im (.int (i : Int)), rfl, by rw [List.length_append, hal] <;> rfl⟩, ?_⟩
      dsimp only [up, List.set]
      rw [List.map_append]
      rfl
    rintro u ⟨as, s9, rfl, hal⟩
    dsimp only [up, List.set]
    refine ws_fz (i := 12) rfl ?_
    dsimp only [List.set]
    have haa : ∀ i : Nat, i < 3 → atI (as.map D.int) (i : Int) = some (.int (as.getD i 0)) := fun i hi => at_ints (by omega)
    refine ws_forN (n := 3) (ea_cons (ev_int.is rfl) ea_nil) (by omega) (fun i u => ∃ s13, u = [(13, s13)]) ⟨_, ⟨_, rfl⟩, rfl⟩ ?_ ?_
    · rintro d u hd ⟨s13, rfl⟩
      dsimp only [up, List.set]
      exact ws_ifF (et_not (et_B (ev_call (ea_cons (ev_var rfl) (ea_cons (ev_var rfl) (ea_cons (ev_var rfl) (ea_cons (ev_var rfl) (ea_cons (ev_op (ev_var rfl) ev_int (rv_ixxL (haa 0 (by decide)))) (ea_cons (ev_op (ev_var rfl) ev_int (rv_ixxL (haa 1 (by decide)))) (ea_cons (ev_op (ev_var rfl) ev_int (rv_ixxL (haa 2 (by decide)))) ea_nil))))))) ⟨cs, pays, _, _, _, _, rfl, hf, rfl⟩))) rfl (ws_next ⟨_, ⟨_, rfl⟩, rfl⟩)
    · rintro u ⟨s13, rfl⟩
      exact ⟨_, ⟨_, _, _, _, rfl⟩, rfl⟩
  · rintro u ⟨s9, s11, s12, s13, rfl⟩
    dsimp only [up, List.set]
    exact ws_ret ev_bl p
end
end FS
set_option Elab.async false
set_option linter.all false
set_option maxRecDepth 100000
set_option maxHeartbeats 4000000
set_option exponentiation.threshold 20000
namespace FS
open PySem PySem.Spec PyProof.Rows L2

local macro_rules | `(tactic| walk_at "side") => `(tactic| first | assumption | omega | decide)
local macro_rules | `(tactic| walk_at "hv") => `(tactic| (intro i hi; simp at hi; first | (subst hi; rfl) | (rcases hi with rfl | rfl <;> rfl) | (rcases hi with rfl | rfl | rfl <;> rfl)))
local macro_rules | `(tactic| walk_at "pr") => `(tactic| fail "no promise")
local macro_rules | `(tactic| walk_at "rv") => `(tactic| first
  | (with_reducible exact rv_add) | (with_reducible exact rv_sub) | (with_reducible exact rv_lt) | (with_reducible exact rv_le) | (with_reducible exact rv_gt) | (with_reducible exact rv_ge) | (with_reducible exact rv_eq) | (with_reducible exact rv_ne)
  | (with_reducible exact rv_is) | (with_reducible exact rv_isnot)
  | ((with_reducible apply rv_div); first | assumption | exact cdiv_small (by omega) (by omega))
  | ((with_reducible apply rv_mod); first | assumption | omega)
  | ((with_reducible apply rv_mul); first | assumption | exact cmul_left (by omega) | exact cmul_right (by omega))
  | ((with_reducible apply rv_mulW); assumption)
  | (with_reducible exact rv_p8) | (with_reducible exact rv_p18) | (with_reducible exact rv_p40) | (with_reducible exact rv_p20) | (with_reducible exact rv_p6) | (with_reducible exact rv_p7) | (with_reducible exact rv_p12) | (with_reducible exact rv_p25) | (with_reducible exact rv_p30) | (with_reducible exact rv_p39) | (with_reducible exact rv_p60)
  | ((with_reducible apply rv_ixxL); first | assumption | exact at_getD (by omega) (by omega) | exact at_nat rfl)
  | ((with_reducible apply rv_ixxT); first | assumption | exact at_getD (by omega) (by omega) | exact at_nat rfl)
  | ((with_reducible apply rv_ixxC); first | assumption)
  | (with_reducible exact ru_neg))
local macro_rules | `(tactic| walk_at "isi") => `(tactic| first | (with_reducible exact isi_non_int) | (with_reducible exact isi_non_bool) | (with_reducible exact isi_non_str) | (with_reducible exact isi_non_tuple) | (with_reducible exact isi_non_list) | (with_reducible exact isi_bl_int) | (with_reducible exact isi_bl_bool) | (with_reducible exact isi_bl_str) | (with_reducible exact isi_bl_tuple) | (with_reducible exact isi_bl_list) | (with_reducible exact isi_int_int) | (with_reducible exact isi_int_bool) | (with_reducible exact isi_int_str) | (with_reducible exact isi_int_tuple) | (with_reducible exact isi_int_list) | (with_reducible exact isi_str_int) | (with_reducible exact isi_str_bool) | (with_reducible exact isi_str_str) | (with_reducible exact isi_str_tuple) | (with_reducible exact isi_str_list) | (with_reducible exact isi_tup_int) | (with_reducible exact isi_tup_bool) | (with_reducible exact isi_tup_str) | (with_reducible exact isi_tup_tuple) | (with_reducible exact isi_tup_list) | (with_reducible exact isi_lst_int) | (with_reducible exact isi_lst_bool) | (with_reducible exact isi_lst_str) | (with_reducible exact isi_lst_tuple) | (with_reducible exact isi_lst_list))
local macro_rules | `(tactic| walk_at "rc") => `(tactic| first
  | walk_at "isi"
  | (with_reducible exact rc_len) | (with_reducible exact rc_lent) | (with_reducible exact rc_lenc) | (with_reducible exact rc_toint) | (with_reducible exact rc_absv) | (with_reducible exact rc_gcd)
  | ((with_reducible apply rc_lcm); assumption)
  | ((with_reducible apply rc_isi); (focus rfl); assumption)
  | (with_reducible exact rco_list) | (with_reducible exact rco_listT))
local macro_rules | `(tactic| walk_at "ev") => `(tactic| first
  | (with_reducible exact ev_int) | (with_reducible exact ev_bl) | (with_reducible exact ev_non) | (with_reducible exact ev_str) | (with_reducible exact ev_ty)
  | ((with_reducible apply ev_var); rfl)
  | ((with_reducible apply ev_lenOw); rfl)
  | ((with_reducible apply ev_op) <;> first | walk_at "ev" | walk_at "rv")
  | ((with_reducible apply ev_un) <;> first | walk_at "ev" | walk_at "rv")
  | ((with_reducible apply ev_cb) <;> first | walk_at "ev" | walk_at "rc")
  | ((with_reducible apply ev_call) <;> first | walk_at "ev" | walk_at "pr")
  | ((with_reducible apply ev_tup) <;> first | walk_at "ev" | (simp; done))
  | (with_reducible exact ea_nil)
  | ((with_reducible apply ea_cons) <;> walk_at "ev")
  | ((with_reducible apply et_test); walk_at "ev")
  | ((with_reducible apply et_B); walk_at "ev")
  | ((with_reducible apply et_not); walk_at "ev")
  | ((with_reducible apply et_or); (walk_at "ev"); intro _; walk_at "ev")
  | ((with_reducible apply et_and); (walk_at "ev"); intro _; walk_at "ev")
  | ((with_reducible apply ev_orV); (walk_at "ev"); intro _; walk_at "ev")
  | ((with_reducible apply ev_andV); (walk_at "ev"); intro _; walk_at "ev")
  | ((with_reducible apply ev_notV); walk_at "ev")
  | (with_reducible exact et_yes)
  | ((with_reducible apply evo_lst) <;> first | walk_at "ev" | (simp; done))
  | ((with_reducible apply ev_opO) <;> first | walk_at "ev" | ((with_reducible apply rvo_add); simp; omega))
  | ((with_reducible apply ev_cbO) <;> first | walk_at "ev" | walk_at "rc")
  | ((with_reducible apply ev_callO) <;> first | walk_at "ev" | walk_at "pr")
  | ((with_reducible apply ec_call) <;> first | walk_at "ev" | walk_at "pr")
  | ((with_reducible apply ec_tup) <;> first | walk_at "ev" | (simp; done))
  | ((with_reducible apply ec_lst) <;> first | walk_at "ev" | (simp; done))
  | (with_reducible exact eca_nil)
  | ((with_reducible apply eca_cons) <;> walk_at "ev")
  | ((with_reducible apply ec_sc); (walk_at "ev"); rfl)
  | ((with_reducible apply ec_ow); (walk_at "ev"); first | assumption | (intro d hd; simp at hd; done))
  | ((with_reducible apply ec_fz); walk_at "ev")
  | ((with_reducible apply ev_fz); walk_at "ev"))

local macro_rules | `(tactic| walk_at "im") => `(tactic| ((with_reducible apply wq_asg); walk_at "ev"; (try dsimp only [List.set, Int.reduceToNat])))
local macro_rules | `(tactic| walk_at "ow") => `(tactic| ((with_reducible apply wq_asgO); walk_at "ev"; (focus (first | decide | (simp; done))); (try dsimp only [List.set, Int.reduceToNat])))
local macro_rules | `(tactic| walk_at "cl") => `(tactic| ((with_reducible apply wq_asgC); walk_at "ev"; (focus (first | decide | (simp; done))); (try dsimp only [List.set, Int.reduceToNat])))
local macro_rules | `(tactic| walk_at "if") => `(tactic| ((first | (with_reducible apply wq_when) | (with_reducible apply wq_if) | (with_reducible apply ws_if)); walk_at "ev"; (try dsimp only [Int.reduceToNat])))
local macro_rules | `(tactic| walk_at "ret") => `(tactic| ((with_reducible apply ws_ret); walk_at "ev"))
local macro_rules | `(tactic| walk_at "go") => `(tactic| (try dsimp only [cxOf, L2.Cx.nox, L2.Cx.wish, L2.Cx.blk]))
local macro_rules | `(tactic| walk_at "ints") => `(tactic| (refine ev_fz (evo_lst ?_ (by decide)); repeat (first | exact ea_nil | refine ea_cons ev_int ?_)))

/-- x = f(..), all that f may hand back -/
theorem wq_asgR {K : PySem.W.Frag} {E : L2.WX} {ρ : Rho} {P : Pst} {tr : TA} {tz : TS} {i : Nat} {ds : List D} {Pr : PrD} {Ex : XK} (ha : EvA K tr ρ ds) (hi : i < ρ.length) (h : Pr ds (okSl (fun ρ' => Ws K E tz ρ' P) ρ i) (fun _ => False)) : Ws K E (tSeq (tAsg (tCall (spD K Pr) [] Ex tr) (gName i)) tz) ρ P := ws_seq fun M T0 H T σ Dn en k =>
  ha M T0 H T σ [] _ en fun vs H1 T1 s1 t1 e1 i1 => by
    obtain ⟨L, r, o, f⟩ := e1.ex
    show spD K Pr (vs ++ []) T1 _ Ex
    rw [List.append_nil]
    refine ⟨L ++ M, H1, ds, _, _, o, i1, h, fun s v H' T' hs s' t' hr => ?_, fun _ _ _ _ _ _ h => h.elim⟩
    cases s with
    | no => exact hs.elim
    | im d =>
      obtain ⟨e2, iz⟩ := e1.ret_im (X := []) r f s' t' hr
      exact k.nx _ _ H' T' hs (s1.trans s') (e2.set iz)
    | ow l =>
      obtain ⟨p, us, rfl, e2, iz⟩ := e1.ret_ow (X := []) r f s' t' hr
      exact k.nx _ _ H' T' hs (s1.trans s') (e2.setO hi iz)
    | cl d =>
      obtain ⟨Lc, e2, iz⟩ := e1.ret_cl (X := []) r f s' t' hr
      exact k.nx _ _ H' T' hs (s1.trans s') (e2.setC hi iz)

/-! ### the law -/
theorem ixN_0 {n : Nat} (h : 0 < n) : ixN n 0 = some 0 := by
  unfold ixN
  rw [if_pos (by omega), if_pos (by omega)]
  rfl
theorem kf_rows (l : List (List Int)) : (rowsD l).kf = true := D.kf_lst fun d hd => by
  obtain ⟨x, _, rfl⟩ := List.mem_map.mp hd
  exact kf_ints x
theorem kf_made (C : Addr) (cs : List Int) (pays : List (List Int)) : (madeD C cs pays).kf = true := by
  have h : D.kfL (gameL ⟨cs, pays⟩) = true := D.kfL_of fun d hd => by
    simp only [gameL, List.mem_cons, List.not_mem_nil, or_false] at hd
    rcases hd with rfl | rfl | rfl | rfl | rfl
    · rfl
    · rfl
    · exact kf_ints _
    · exact kf_rows _
    · exact kf_ints _
  exact D.kf_lst fun d hd => by
    simp only [List.mem_cons, List.not_mem_nil, or_false] at hd
    rcases hd with rfl | rfl
    · rfl
    · rw [gameD, D.kf]
      exact h
section
variable {P : Program} {w : World} {K : PySem.W.Frag} {mg : Str → Option Value} {base : Heap} {C_Game C_Fault C_BadGame C_NoPerson C_NoWorld C_NoChoice : Addr}
theorem ok_law {f : Addr} {fd : FuncData} (F : Fun K "law" "law" s_law f fd) (gm : Gm K mg C_Game C_Fault C_BadGame C_NoPerson C_NoWorld C_NoChoice) (G_law_game : FnG P w K mg base CX0 2 "_law_game" ["script"] (spD K P_lgame)) (G_law_draws : FnG P w K mg base CX0 1 "_law_draws" ["cell", "sizes"] (spD K P_draws)) (G_law_cell : FnG P w K mg base CX0 1 "_law_cell" ["script", "k"] (spD K P_cell))
    (G_law_spoilt : FnG P w K mg base CX0 1 "_law_spoilt" ["choices", "pays", "drawn"] (spD K P_spoilt)) (G_law_made : FnG P w K mg base CX0 4 "_law_made" ["choices", "pays"] (spD K (P_made C_Game))) (G_law_fits : FnG P w K mg base CX0 1 "_law_fits" ["choices", "pays"] (spD K P_fits)) (G_law_rows : FnG P w K mg base CX0 1 "_law_rows" ["choices"] (spD K P_rows))
    (G_law_asked : FnG P w K mg base CX0 8 "_law_asked" ["game", "tables", "rows"] (spD K (P_asked C_Game))) (G_law_refused : FnG P w K mg base CX0 8 "_law_refused" ["game", "tables", "rows", "drawn"] (spD K (P_refused C_Game)))
    (G_Game_choices : FnM P w K mg base CX0 1 C_Game "choices" ["self"] (spD K (P_choices C_Game))) (G_Game_sights : FnM P w K mg base CX0 5 C_Game "sights" ["self"] (spD K (P_sights C_Game))) : FnOk P w K mg base CX0 9 f fd ["script"] (spD K P_law) := by
  refine okD F (k := 8) sc_law (fun ds R Z ⟨a, e, _⟩ => by rw [e] <;> rfl) (fun f cdv A outer s H E hr => ?_)
  refine ⟨_,
    (pss_cons (sv 1 sc_law.nd (pe_g G_law_game hr.le pass0 (pa_cons (pv 0) pa_nil)))
    (pss_cons (sv 2 sc_law.nd (pe_g G_law_draws hr.le pass0 (pa_cons (pe_g G_law_cell hr.le pass0 (pa_cons (pv 0) (pa_cons pe_int pa_nil))) (pa_cons (pe_lst (pa_cons pe_int (pa_cons pe_int (pa_cons pe_int (pa_cons pe_int (pa_cons pe_int (pa_cons pe_int (pa_cons pe_int (pa_cons pe_int (pa_cons pe_int (pa_cons pe_int (pa_cons pe_int pa_nil)))))))))))) pa_nil))))
    (pss_cons (sv 3 sc_law.nd (pe_g G_law_spoilt hr.le pass0 (pa_cons (ix K (pv 1) pe_int) (pa_cons (ix K (pv 1) pe_int) (pa_cons (pv 2) pa_nil)))))
    (pss_cons (sv 4 sc_law.nd (pe_lst (pa_cons (ct (kList K) gm.list (pa_cons (ix K (pv 3) pe_int) pa_nil)) (pa_cons (pe_lc (own := [("row", 5)]) rfl sc_law.nd (pl K (ix K (pv 3) pe_int)) (blkOk_by (N := N_law) (sc := defScope s_law) (by decide +kernel)) (fun _ _ _ _ _ => (gn 5 sc_law.nd)) (fun _ _ _ _ _ => pts_nil) (fun _ _ _ _ _ => (ct (kList K) gm.list (pa_cons (pv 5) pa_nil)))) pa_nil))))
    (pss_cons (sv 6 sc_law.nd (pe_g G_law_made hr.le pass0 (pa_cons (ix K (pv 4) pe_int) (pa_cons (ix K (pv 4) pe_int) pa_nil))))
    (pss_cons (ps_if (pt_not (pt_val (pe_g G_law_fits hr.le pass0 (pa_cons (ix K (pv 3) pe_int) (pa_cons (ix K (pv 3) pe_int) pa_nil))))) (pss_cons (ps_if (pt_cmpR (kNe K hr.units) (pv 6) (pe_lst (pa_cons pe_str pa_nil)) (nomark _)) (pss_one (ps_ret pe_bl)) pss_nil) (pss_cons (sv 3 sc_law.nd (pv 1)) (pss_cons (sv 4 sc_law.nd (pe_lst (pa_cons (ct (kList K) gm.list (pa_cons (ix K (pv 3) pe_int) pa_nil)) (pa_cons (pe_lc (own := [("row", 5)]) rfl sc_law.nd (pl K (ix K (pv 3) pe_int)) (blkOk_by (N := N_law) (sc := defScope s_law) (by decide +kernel)) (fun _ _ _ _ _ => (gn 5 sc_law.nd)) (fun _ _ _ _ _ => pts_nil) (fun _ _ _ _ _ => (ct (kList K) gm.list (pa_cons (pv 5) pa_nil)))) pa_nil)))) (pss_one (sv 6 sc_law.nd (pe_g G_law_made hr.le pass0 (pa_cons (ix K (pv 4) pe_int) (pa_cons (ix K (pv 4) pe_int) pa_nil)))))))) pss_nil)
    (pss_cons (ps_if (PW.pt (pw_or (pt_cmpR (kNe K hr.units) (cb (kLen K) gm.len (pa_cons (pv 6) pa_nil)) pe_int (nomark _)) (pw_or1 (pt_cmpR (kNe K hr.units) (ix K (pv 6) pe_int) pe_str (nomark _))))) (pss_one (ps_ret pe_bl)) pss_nil)
    (pss_cons (sv 7 sc_law.nd (ix K (pv 6) pe_int))
    (pss_cons (ps_asg pe_int (pg_sub (ix K (pv 4) pe_int) pe_int set_list))
    (pss_cons (ps_expr (pe_bm0 PySem.F.plainAttrs_list PySem.F.slot_list_clear PySem.F.type_list_clear mt_clear (ix K (ix K (pv 4) pe_int) pe_int)))
    (pss_cons (sv 8 sc_law.nd (pe_g G_law_game hr.le pass0 (pa_cons (pe_slice sl_list (pv 0) (po_some pe_int) po_none) pa_nil)))
    (pss_cons (sv 6 sc_law.nd (pe_g G_law_made hr.le pass0 (pa_cons (ix K (pv 8) pe_int) (pa_cons (ix K (pv 8) pe_int) pa_nil))))
    (pss_cons (ps_if (PW.pt (pw_or (pt_cmpR (kNe K hr.units) (cb (kLen K) gm.len (pa_cons (pv 6) pa_nil)) pe_int (nomark _)) (pw_or1 (pt_cmpR (kNe K hr.units) (ix K (pv 6) pe_int) pe_str (nomark _))))) (pss_one (ps_ret pe_bl)) pss_nil)
    (pss_cons (sv 9 sc_law.nd (ix K (pv 6) pe_int))
    (pss_cons (sv 10 sc_law.nd (pe_g G_law_rows hr.le pass0 (pa_cons (ix K (pv 3) pe_int) pa_nil)))
    (pss_cons (ps_if (PW.pt (pw_or (pt_not (pt_val (pe_g G_law_asked hr.le pass0 (pa_cons (pv 7) (pa_cons (pv 3) (pa_cons (pv 10) pa_nil)))))) (pw_or1 (pt_not (pt_val (pe_g G_law_asked hr.le pass0 (pa_cons (pv 9) (pa_cons (pv 8) (pa_cons (pe_g G_law_rows hr.le pass0 (pa_cons (ix K (pv 8) pe_int) pa_nil)) pa_nil))))))))) (pss_one (ps_ret pe_bl)) pss_nil)
    (pss_cons (sv 11 sc_law.nd (pe_lst (pa_cons (pe_m0 G_Game_choices gm.Game_c hr.le pass0 (pv 7)) (pa_cons (pe_m0 G_Game_sights gm.Game_c hr.le pass0 (pv 7)) pa_nil))))
    (pss_cons (ps_expr (ml_append K (ix K (pv 11) pe_int) (pa_cons pe_int pa_nil)))
    (pss_cons (ps_expr (pe_bm0 PySem.F.plainAttrs_list PySem.F.slot_list_clear PySem.F.type_list_clear mt_clear (ix K (ix K (pv 11) pe_int) pe_int)))
    (pss_cons (ps_expr (pe_bm0 PySem.F.plainAttrs_list PySem.F.slot_list_pop PySem.F.type_list_pop mt_pop (ix K (pv 11) pe_int)))
    (pss_one (ps_ret (pe_and (pe_g G_law_asked hr.le pass0 (pa_cons (pv 7) (pa_cons (pv 3) (pa_cons (pv 10) pa_nil)))) (pe_one (pe_g G_law_refused hr.le pass0 (pa_cons (pv 7) (pa_cons (pv 3) (pa_cons (pv 10) (pa_cons (pv 2) pa_nil))))))))))))))))))))))))))))), fun ds R Z p => ?_⟩
  obtain ⟨ns, rfl, p⟩ := p
  refine ws_to (ρ' := [.im (.scr ns), .no, .no, .no, .no, .no, .no, .no, .no, .no, .no, .no]) rfl ?_
  walk_at "go"
  have tab0 : ∀ (ρ : Rho) (i : Nat) cs pays, ρ[i]? = some (.im (tabG cs pays)) → EvD K (tOp (rIx K) (tVar i) (tC (.int 0))) ρ (intsD cs) := fun ρ i cs pays e => ev_op (ev_var e) ev_int (rv_ixxL (at_nat (j := 0) rfl))
  have tab1 : ∀ (ρ : Rho) (i : Nat) cs pays, ρ[i]? = some (.im (tabG cs pays)) → EvD K (tOp (rIx K) (tVar i) (tC (.int 1))) ρ (rowsD pays) := fun ρ i cs pays e => ev_op (ev_var e) ev_int (rv_ixxL (at_nat (j := 1) rfl))
  have made : ∀ (ρ : Rho) (tr : TA) cs pays, EvNA K tr ρ [intsD cs, rowsD pays] → Fits cs pays → EvD K (tCall (spD K (P_made C_Game)) [] E0 tr) ρ (madeD C_Game cs pays) := fun ρ tr cs pays h hf => ec_fz (ec_callN h ⟨cs, pays, rfl, ⟨by have := hf.1.1; omega, by have := hf.1.1; have := hf.2.1; omega⟩, fun _ => rfl, fun q => absurd hf q⟩ (kf_made _ _ _))
  refine wq_asgR (ea_cons (ev_var rfl) ea_nil) (by simp) ⟨_, ns, rfl, .inl rfl, fun cs0 pays0 hf0 => ?_⟩
  show Ws K _ _ (List.set _ _ _) _
  dsimp only [List.set]
  refine wq_asg (d := intsD (draws (cell ns 4) szB)) (ec_fz (ec_call (ea_cons (ev_call (by walk_at "ev") (pr_cell (.inl rfl) (by decide))) (ea_cons (by walk_at "ints") ea_nil)) (pr_draws (sizes := szB) (by decide) (by decide)))) ?_
  dsimp only [List.set]
  have hdl : (draws (cell ns 4) szB).length = 11 := draws_len _ _
  have hdb : ∀ i, i < 11 → 0 ≤ (draws (cell ns 4) szB).getD i 0 ∧ (draws (cell ns 4) szB).getD i 0 < szB.getD i 0 := fun i hi => draws_bd (cell ns 4) szB i (by decide) hi
  generalize draws (cell ns 4) szB = dr at hdl hdb
  refine wq_asgR (ea_cons (tab0 _ 1 cs0 pays0 rfl) (ea_cons (tab1 _ 1 cs0 pays0 rfl) (ea_cons (ev_var rfl) ea_nil))) (by simp) ⟨cs0, pays0, dr, rfl, hf0, hdl, hdb, fun cs1 pays1 hs1 => ?_⟩
  show Ws K _ _ (List.set _ _ _) _
  dsimp only [List.set]
  refine wq_asgC (d := tabG cs1 pays1) (ec_lst (eca_cons (ec_ow (ev_cbO (ea_cons (tab0 _ 3 cs1 pays1 rfl) ea_nil) rco_list) (scal_ints _)) (eca_cons (lc_LC (xs := pays1) (enc := intsD) intsD (tab1 _ 3 cs1 pays1 rfl) rfl (fun r hr => ec_ow (ev_cbO (ea_cons (ev_var rfl) ea_nil) rco_list) (scal_ints _)) (by have := hs1.2; omega)) eca_nil)) (by simp)) (by simp) ?_
  dsimp only [List.set]
  have hand : ∀ (ρ : Rho) cs pays, ρ[4]? = some (.cl (tabG cs pays)) → EvNA K (tCons (tOp (rIx K) (tVar 4) (tC (.int 0))) (tCons (tOp (rIx K) (tVar 4) (tC (.int 1))) tNil)) ρ [intsD cs, rowsD pays] := fun ρ cs pays e => ena_cons (en_spot e (el_ix (j := 0) e (el_var e) rfl ev_int rfl) rfl) (ena_cons (en_spot e (el_ix (j := 1) e (el_var e) rfl ev_int rfl) rfl) ena_nil)
  refine ws_mid (fun ρ' => ∃ a, ρ' = [.im (.scr ns), .im (tabG cs0 pays0), .im (intsD dr), .im (tabG cs1 pays1), .cl (tabG cs1 pays1), .no, .im a, .no, .no, .no, .no, .no] ∧ (Fits cs1 pays1 → a = madeD C_Game cs1 pays1) ∧ (¬ Fits cs1 pays1 → a = .lst [.str "BadGame"])) ?_ ?_
  · by_cases hf : Fits cs1 pays1
    · exact ws_asg (made _ _ cs1 pays1 (hand _ _ _ rfl) hf) ⟨_, rfl, fun _ => rfl, fun q => absurd hf q⟩
    · exact ws_asg (d := .lst [.str "BadGame"]) (ec_fz (ec_callN (hand _ cs1 pays1 rfl) ⟨cs1, pays1, rfl, hs1, fun q => absurd q hf, fun _ => rfl⟩ rfl)) ⟨_, rfl, fun q => absurd q hf, fun _ => rfl⟩
  rintro ρ' ⟨a, rfl, ha1, ha2⟩
  refine ws_mid (fun ρ' => ∃ cs pays s5, ρ' = [.im (.scr ns), .im (tabG cs0 pays0), .im (intsD dr), .im (tabG cs pays), .cl (tabG cs pays), s5, .im (madeD C_Game cs pays), .no, .no, .no, .no, .no] ∧ Fits cs pays) ?_ ?_
  · by_cases hf : Fits cs1 pays1
    · rw [ha1 hf]
      exact ws_ifF (et_not (et_B (ev_call (z := .bl true) (ea_cons (tab0 _ 3 cs1 pays1 rfl) (ea_cons (tab1 _ 3 cs1 pays1 rfl) ea_nil)) ⟨cs1, pays1, rfl, fun _ => rfl, fun q => absurd hf q⟩))) rfl (ws_next ⟨_, _, _, rfl, hf⟩)
    · rw [ha2 hf]
      refine ws_ifT (et_not (et_B (ev_call (z := .bl false) (ea_cons (tab0 _ 3 cs1 pays1 rfl) (ea_cons (tab1 _ 3 cs1 pays1 rfl) ea_nil)) ⟨cs1, pays1, rfl, fun q => absurd q hf, fun _ => rfl⟩))) rfl ?_
      refine wq_noif (et_test (ev_op (ev_var rfl) (ev_fz (evo_lst (ea_cons ev_str ea_nil) (by simp))) (rv_neDD (n := 1) (by decide +kernel) (by decide)))) rfl ?_
      refine wq_asg (ev_var rfl) ?_
      dsimp only [List.set]
      refine wq_asgC (d := tabG cs0 pays0) (ec_lst (eca_cons (ec_ow (ev_cbO (ea_cons (tab0 _ 3 cs0 pays0 rfl) ea_nil) rco_list) (scal_ints _)) (eca_cons (lc_LC (xs := pays0) (enc := intsD) intsD (tab1 _ 3 cs0 pays0 rfl) rfl (fun r hr => ec_ow (ev_cbO (ea_cons (ev_var rfl) ea_nil) rco_list) (scal_ints _)) (by have := hf0.1.1; have := hf0.2.1; omega)) eca_nil)) (by simp)) (by simp) ?_
      dsimp only [List.set]
      exact ws_asg (made _ _ cs0 pays0 (hand _ _ _ rfl) hf0) ⟨_, _, _, rfl, hf0⟩
  rintro ρ' ⟨cs, pays, s5, rfl, hf⟩
  clear ha1 ha2 hs1 cs1 pays1
  have isMade : ∀ (ρ : Rho) (tz : TS) (Pz : Pst) (E : L2.WX) cs pays, ρ[6]? = some (.im (madeD C_Game cs pays)) → Ws K E tz ρ Pz → Ws K E (tSeq (tIfS (tOr (tTest (tOp (rNeA K) (tCB (rLenA K) (tCons (tVar 6) tNil)) (tC (.int 2)))) (tTest (tOp (rNeA K) (tOp (rIx K) (tVar 6) (tC (.int 0))) (tC (.str "made"))))) (tRet (tC (.bl false))) tNext) tz) ρ Pz := fun ρ tz Pz E cs pays e h => wq_noif (et_or (et_test (ev_op (ev_cb (ea_cons (ev_var e) ea_nil) rc_len) ev_int rv_ne)) fun _ => et_test (ev_op (ev_op (ev_var e) ev_int (rv_ixxL (d := .str "made") (at_nat (j := 0) rfl))) ev_str rv_neStr)) rfl h
  refine isMade _ _ _ _ cs pays rfl ?_
  refine wq_asg (d := gameD C_Game ⟨cs, pays⟩) (ev_op (ev_var rfl) ev_int (rv_ixxL (at_nat (j := 1) rfl))) ?_
  dsimp only [List.set]
  have hcl := hf.1.1
  have hpl := hf.2.1
  obtain ⟨c0, ct, hc0⟩ : ∃ c0 ct, cs = c0 :: ct := List.exists_cons_of_length_pos (by omega)
  obtain ⟨p0, pt, hp0⟩ : ∃ p0 pt, pays = p0 :: pt := List.exists_cons_of_length_pos (by omega)
  refine wq_setP (x := .int 9) (j := 0) (l := (c0 :: ct).map .int) rfl (ec_sc ev_int rfl) (el_ix (j := 0) rfl (el_var rfl) rfl ev_int rfl) (by rw [hc0] <;> rfl) ev_int (ixN_0 (by simp)) rfl ?_
  dsimp only [List.set]
  refine wq_clearP (l := p0.map .int) rfl (el_ix (j := 0) rfl (el_ix (j := 1) rfl (el_var rfl) rfl ev_int rfl) (l := (p0 :: pt).map intsD) (by rw [hp0] <;> rfl) ev_int (ixN_0 (by simp))) (by rw [hp0] <;> rfl) ?_
  dsimp only [List.set]
  generalize D.put _ _ _ = handed
  refine wq_asgR (ea_cons ((ev_fz (ev_slF (k := 6) (d := .scr ns) (l := ns.map .int) (ev_var rfl) rfl ev_int)).is (y := intsD (ns.drop 6)) (by rw [intsD, List.map_drop])) ea_nil) (by simp) ⟨_, ns.drop 6, rfl, .inr rfl, fun cs2 pays2 hf2 => ?_⟩
  show Ws K _ _ (List.set _ _ _) _
  dsimp only [List.set]
  refine wq_asg (made _ _ cs2 pays2 (ena_cons (en_d (tab0 _ 8 cs2 pays2 rfl)) (ena_cons (en_d (tab1 _ 8 cs2 pays2 rfl)) ena_nil)) hf2) ?_
  dsimp only [List.set]
  refine isMade _ _ _ _ cs2 pays2 rfl ?_
  refine wq_asg (d := gameD C_Game ⟨cs2, pays2⟩) (ev_op (ev_var rfl) ev_int (rv_ixxL (at_nat (j := 1) rfl))) ?_
  dsimp only [List.set]
  have rowsE : ∀ (ρ : Rho) (te : TE) cs pays, EvD K te ρ (intsD cs) → Fits cs pays → EvD K (tCall (spD K P_rows) [] E0 (tCons te tNil)) ρ (rowsD (rowsOf cs)) := fun ρ te cs pays h hf => ev_call (ea_cons h ea_nil) ⟨cs, rfl, hf.1, rfl⟩
  have asked : ∀ (ρ : Rho) (tr : TA) cs pays, EvA K tr ρ [gameD C_Game ⟨cs, pays⟩, tabG cs pays, rowsD (rowsOf cs)] → Fits cs pays → EvD K (tCall (spD K (P_asked C_Game)) [] E0 tr) ρ (.bl true) := fun ρ tr cs pays h hf => ev_call h ⟨cs, pays, rfl, hf, rfl⟩
  refine wq_asg (rowsE _ _ cs pays (tab0 _ 3 cs pays rfl) hf) ?_
  dsimp only [List.set]
  refine wq_noif (et_or (et_not (et_B (asked _ _ cs pays (ea_cons (ev_var rfl) (ea_cons (ev_var rfl) (ea_cons (ev_var rfl) ea_nil))) hf))) fun _ => et_not (et_B (asked _ _ cs2 pays2 (ea_cons (ev_var rfl) (ea_cons (ev_var rfl) (ea_cons (rowsE _ _ cs2 pays2 (tab0 _ 8 cs2 pays2 rfl) hf2) ea_nil))) hf2))) rfl ?_
  refine wq_asgC (d := .lst [intsD cs, sightsD cs]) (ec_lst (eca_cons (ec_meth (z := intsD cs) (l := gameL ⟨cs, pays⟩) (ns := gameNs) (ev_var rfl) (by decide) ea_nil pr_choices) (eca_cons (ec_meth (z := sightsD cs) (l := gameL ⟨cs, pays⟩) (ns := gameNs) (ev_var rfl) (by decide) ea_nil ⟨⟨cs, pays⟩, rfl, hf.1, rfl⟩) eca_nil)) (by simp)) (by simp) ?_
  dsimp only [List.set]
  obtain ⟨s0, st, hst⟩ : ∃ s0 st, sightsL cs = .lst s0 :: st := by
    rw [sightsL, show cs.length = (cs.length - 1) + 1 by omega, List.range_succ_eq_map, List.map_cons]
    exact ⟨_, _, rfl⟩
  rw [sightsD, hst]
  refine wq_appP (l := cs.map .int) (x := .int 3) rfl (el_ix (j := 0) rfl (el_var rfl) rfl ev_int rfl) rfl (ec_sc ev_int rfl) (by rw [List.length_map]; omega) ?_
  dsimp only [List.set]
  refine wq_clearP (l := s0) rfl (el_ix (j := 0) rfl (el_ix (j := 1) rfl (el_var rfl) rfl ev_int rfl) rfl ev_int (ixN_0 (by simp))) rfl ?_
  dsimp only [List.set]
  refine wq_popP rfl (el_ix (j := 1) rfl (el_var rfl) rfl ev_int rfl) rfl (by simp) ?_
  dsimp only [List.set]
  exact ws_ret (ev_andV (asked _ _ cs pays (ea_cons (ev_var rfl) (ea_cons (ev_var rfl) (ea_cons (ev_var rfl) ea_nil))) hf) fun _ => ev_call (z := .bl true) (ea_cons (ev_var rfl) (ea_cons (ev_var rfl) (ea_cons (ev_var rfl) (ea_cons (ev_var rfl) ea_nil)))) ⟨cs, pays, dr, rfl, hf, hdl, hdb, rfl⟩) p
end
end FS
set_option Elab.async false
set_option linter.all false
set_option maxRecDepth 100000
set_option maxHeartbeats 4000000
set_option exponentiation.threshold 20000
namespace FS
open PySem PySem.Spec PyProof.Rows L2
theorem all_mk {l : PySem.W.OpenLaw} {w : World} {K : PySem.W.Frag} {h : Heap} {mg : Str → Option Value} {fa f0 f1 f2 f3 f4 f5 f6 f7 f8 f9 f10 f11 f12 f13 f14 f15 f16 f17 f18 f19 f20 f21 f22 f23 f24 f25 f26 f27 f28 C_Game C_Fault C_BadGame C_NoPerson C_NoWorld C_NoChoice : Addr} (X : K.In h) (G : h.Ns mainGlobals mg) (hfa : mg "law" = some (.ref fa))
    {od0 od1 od2 od3 od4 od5 od6 od7 od8 od9 od10 od11 od12 od13 od14 od15 od16 od17 od18 od19 od20 od21 od22 od23 od24 od25 od26 od27 od28 an0 an1 an2 an3 an4 an5 an6 an7 an8 an9 an10 an11 an12 an13 an14 an15 an16 an17 an18 an19 an20 an21 an22 an23 an24 an25 an26 an27 an28 : Option Addr} {sl0 sl1 sl2 sl3 sl4 sl5 sl6 sl7 sl8 sl9 sl10 sl11 sl12 sl13 sl14 sl15 sl16 sl17 sl18 sl19 sl20 sl21 sl22 sl23 sl24 sl25 sl26 sl27 sl28 : Array (Option Value)} {oc0 oc1 oc2 oc3 oc4 oc5 oc6 oc7 oc8 oc9 oc10 oc11 oc12 oc13 oc14 oc15 oc16 oc17 oc18 oc19 oc20 oc21 oc22 oc23 oc24 oc25 oc26 oc27 oc28 kV0 kV1 kV2 kV3 kV4 kV5 kV6 kV7 kV8 kV9 kV10 kV11 kV12 kV13 kV14 kV15 kV16 kV17 kV18 kV19 kV20 kV21 kV22 kV23 kV24 kV25 kV26 kV27 kV28 dc0 dc1 dc2 dc3 dc4 dc5 dc6 dc7 dc8 dc9 dc10 dc11 dc12 dc13 dc14 dc15 dc16 dc17 dc18 dc19 dc20 dc21 dc22 dc23 dc24 dc25 dc26 dc27 dc28 pm0 pm1 pm2 pm3 pm4 pm5 pm6 pm7 pm8 pm9 pm10 pm11 pm12 pm13 pm14 pm15 pm16 pm17 pm18 pm19 pm20 pm21 pm22 pm23 pm24 pm25 pm26 pm27 pm28 cd0 cd1 cd2 cd3 cd4 cd5 cd6 cd7 cd8 cd9 cd10 cd11 cd12 cd13 cd14 cd15 cd16 cd17 cd18 cd19 cd20 cd21 cd22 cd23 cd24 cd25 cd26 cd27 cd28 ct0 ct1 ct2 ct3 ct4 ct5 ct6 ct7 ct8 ct9 ct10 ct11 ct12 ct13 ct14 ct15 ct16 ct17 ct18 ct19 ct20 ct21 ct22 ct23 ct24 ct25 ct26 ct27 ct28 : Value} {t12 t13 t14 t15 : Tok} {nm_NoPerson qn_NoPerson : Str} {ns_NoPerson : Addr} {bs_NoPerson bm_NoPerson : List Value} {sn_NoPerson : List Str} {sub_NoPerson : List Value} {ab_NoPerson : Bool} {col_NoPerson : Option Bool} {dd_NoPerson : Option Addr} {k0_NoPerson k1_NoPerson k2_NoPerson k3_NoPerson k5_NoPerson : Option Value} {nm_NoWorld qn_NoWorld : Str} {ns_NoWorld : Addr} {bs_NoWorld bm_NoWorld : List Value} {sn_NoWorld : List Str} {sub_NoWorld : List Value} {ab_NoWorld : Bool} {col_NoWorld : Option Bool} {dd_NoWorld : Option Addr} {k0_NoWorld k1_NoWorld k2_NoWorld k3_NoWorld k5_NoWorld : Option Value} {nm_NoChoice qn_NoChoice : Str} {ns_NoChoice : Addr} {bs_NoChoice bm_NoChoice : List Value} {sn_NoChoice : List Str} {sub_NoChoice : List Value} {ab_NoChoice : Bool} {col_NoChoice : Option Bool} {dd_NoChoice : Option Addr} {k0_NoChoice k1_NoChoice k2_NoChoice k3_NoChoice k5_NoChoice : Option Value}
    (a0 : PySem.W.findIn K (.ref C_NoPerson) "__init__" = some (some (.ref f0))) (i0 : PySem.W.typeIn K (.ref f0) = some (.type "function"))
    (l0 : K.lookup f0 = some ⟨oc0, od0, .func (PySem.W.fnOf "__init__" "NoPerson.__init__" (defArgs s_NoPerson_init) (defBody s_NoPerson_init) (defScope s_NoPerson_init) .none kV0 dc0 pm0 an0 cd0 ct0), sl0⟩) (c0 : PySem.W.codeIn K cd0 "NoPerson.__init__" = true) (k0 : PySem.W.keepIn K (.ref f0) = true)
    (a1 : PySem.W.findIn K (.ref C_NoWorld) "__init__" = some (some (.ref f1))) (i1 : PySem.W.typeIn K (.ref f1) = some (.type "function"))
    (l1 : K.lookup f1 = some ⟨oc1, od1, .func (PySem.W.fnOf "__init__" "NoWorld.__init__" (defArgs s_NoWorld_init) (defBody s_NoWorld_init) (defScope s_NoWorld_init) .none kV1 dc1 pm1 an1 cd1 ct1), sl1⟩) (c1 : PySem.W.codeIn K cd1 "NoWorld.__init__" = true) (k1 : PySem.W.keepIn K (.ref f1) = true)
    (a2 : PySem.W.findIn K (.ref C_NoChoice) "__init__" = some (some (.ref f2))) (i2 : PySem.W.typeIn K (.ref f2) = some (.type "function"))
    (l2 : K.lookup f2 = some ⟨oc2, od2, .func (PySem.W.fnOf "__init__" "NoChoice.__init__" (defArgs s_NoChoice_init) (defBody s_NoChoice_init) (defScope s_NoChoice_init) .none kV2 dc2 pm2 an2 cd2 ct2), sl2⟩) (c2 : PySem.W.codeIn K cd2 "NoChoice.__init__" = true) (k2 : PySem.W.keepIn K (.ref f2) = true)
    (a3 : PySem.W.nsIn K mainGlobals "check_player" = some (some (.ref f3)))
    (l3 : K.lookup f3 = some ⟨oc3, od3, .func (PySem.W.fnOf "check_player" "check_player" (defArgs s_check_player) (defBody s_check_player) (defScope s_check_player) .none kV3 dc3 pm3 an3 cd3 ct3), sl3⟩) (c3 : PySem.W.codeIn K cd3 "check_player" = true) (k3 : PySem.W.keepIn K (.ref f3) = true)
    (a4 : PySem.W.nsIn K mainGlobals "check_outcome" = some (some (.ref f4)))
    (l4 : K.lookup f4 = some ⟨oc4, od4, .func (PySem.W.fnOf "check_outcome" "check_outcome" (defArgs s_check_outcome) (defBody s_check_outcome) (defScope s_check_outcome) .none kV4 dc4 pm4 an4 cd4 ct4), sl4⟩) (c4 : PySem.W.codeIn K cd4 "check_outcome" = true) (k4 : PySem.W.keepIn K (.ref f4) = true)
    (a5 : PySem.W.nsIn K mainGlobals "counted" = some (some (.ref f5)))
    (l5 : K.lookup f5 = some ⟨oc5, od5, .func (PySem.W.fnOf "counted" "counted" (defArgs s_counted) (defBody s_counted) (defScope s_counted) .none kV5 dc5 pm5 an5 cd5 ct5), sl5⟩) (c5 : PySem.W.codeIn K cd5 "counted" = true) (k5 : PySem.W.keepIn K (.ref f5) = true)
    (a6 : PySem.W.nsIn K mainGlobals "check_pays" = some (some (.ref f6)))
    (l6 : K.lookup f6 = some ⟨oc6, od6, .func (PySem.W.fnOf "check_pays" "check_pays" (defArgs s_check_pays) (defBody s_check_pays) (defScope s_check_pays) .none kV6 dc6 pm6 an6 cd6 ct6), sl6⟩) (c6 : PySem.W.codeIn K cd6 "check_pays" = true) (k6 : PySem.W.keepIn K (.ref f6) = true)
    (a7 : PySem.W.findIn K (.ref C_Game) "__init__" = some (some (.ref f7))) (i7 : PySem.W.isFn K (.ref f7) = true)
    (l7 : K.lookup f7 = some ⟨oc7, od7, .func (PySem.W.fnOf "__init__" "Game.__init__" (defArgs s_Game_init) (defBody s_Game_init) (defScope s_Game_init) .none kV7 dc7 pm7 an7 cd7 ct7), sl7⟩) (c7 : PySem.W.codeIn K cd7 "Game.__init__" = true) (k7 : PySem.W.keepIn K (.ref f7) = true)
    (a8 : PySem.W.findIn K (.ref C_Game) "choices" = some (some (.ref f8))) (i8 : PySem.W.isFn K (.ref f8) = true)
    (l8 : K.lookup f8 = some ⟨oc8, od8, .func (PySem.W.fnOf "choices" "Game.choices" (defArgs s_Game_choices) (defBody s_Game_choices) (defScope s_Game_choices) .none kV8 dc8 pm8 an8 cd8 ct8), sl8⟩) (c8 : PySem.W.codeIn K cd8 "Game.choices" = true) (k8 : PySem.W.keepIn K (.ref f8) = true)
    (a9 : PySem.W.nsIn K mainGlobals "check_choice" = some (some (.ref f9)))
    (l9 : K.lookup f9 = some ⟨oc9, od9, .func (PySem.W.fnOf "check_choice" "check_choice" (defArgs s_check_choice) (defBody s_check_choice) (defScope s_check_choice) .none kV9 dc9 pm9 an9 cd9 ct9), sl9⟩) (c9 : PySem.W.codeIn K cd9 "check_choice" = true) (k9 : PySem.W.keepIn K (.ref f9) = true)
    (a10 : PySem.W.findIn K (.ref C_Game) "chosen" = some (some (.ref f10))) (i10 : PySem.W.isFn K (.ref f10) = true)
    (l10 : K.lookup f10 = some ⟨oc10, od10, .func (PySem.W.fnOf "chosen" "Game.chosen" (defArgs s_Game_chosen) (defBody s_Game_chosen) (defScope s_Game_chosen) .none kV10 dc10 pm10 an10 cd10 ct10), sl10⟩) (c10 : PySem.W.codeIn K cd10 "Game.chosen" = true) (k10 : PySem.W.keepIn K (.ref f10) = true)
    (a11 : PySem.W.findIn K (.ref C_Game) "pay" = some (some (.ref f11))) (i11 : PySem.W.isFn K (.ref f11) = true)
    (l11 : K.lookup f11 = some ⟨oc11, od11, .func (PySem.W.fnOf "pay" "Game.pay" (defArgs s_Game_pay) (defBody s_Game_pay) (defScope s_Game_pay) .none kV11 dc11 pm11 an11 cd11 ct11), sl11⟩) (c11 : PySem.W.codeIn K cd11 "Game.pay" = true) (k11 : PySem.W.keepIn K (.ref f11) = true)
    (a12 : PySem.W.findIn K (.ref C_Game) "switched" = some (some (.ref f12))) (i12 : PySem.W.isFn K (.ref f12) = true)
    (l12 : K.lookup f12 = some ⟨oc12, od12, .func (PySem.W.fnOf "switched" "Game.switched" (defArgs s_Game_switched) (defBody s_Game_switched) (defScope s_Game_switched) .none kV12 dc12 pm12 an12 cd12 ct12), sl12⟩) (c12 : PySem.W.codeIn K cd12 "Game.switched" = true) (k12 : PySem.W.keepIn K (.ref f12) = true)
    (a13 : PySem.W.findIn K (.ref C_Game) "sights" = some (some (.ref f13))) (i13 : PySem.W.isFn K (.ref f13) = true)
    (l13 : K.lookup f13 = some ⟨oc13, od13, .func (PySem.W.fnOf "sights" "Game.sights" (defArgs s_Game_sights) (defBody s_Game_sights) (defScope s_Game_sights) .none kV13 dc13 pm13 an13 cd13 ct13), sl13⟩) (c13 : PySem.W.codeIn K cd13 "Game.sights" = true) (k13 : PySem.W.keepIn K (.ref f13) = true)
    (a14 : PySem.W.nsIn K mainGlobals "_law_cell" = some (some (.ref f14)))
    (l14 : K.lookup f14 = some ⟨oc14, od14, .func (PySem.W.fnOf "_law_cell" "_law_cell" (defArgs s_law_cell) (defBody s_law_cell) (defScope s_law_cell) .none kV14 dc14 pm14 an14 cd14 ct14), sl14⟩) (c14 : PySem.W.codeIn K cd14 "_law_cell" = true) (k14 : PySem.W.keepIn K (.ref f14) = true)
    (a15 : PySem.W.nsIn K mainGlobals "_law_draws" = some (some (.ref f15)))
    (l15 : K.lookup f15 = some ⟨oc15, od15, .func (PySem.W.fnOf "_law_draws" "_law_draws" (defArgs s_law_draws) (defBody s_law_draws) (defScope s_law_draws) .none kV15 dc15 pm15 an15 cd15 ct15), sl15⟩) (c15 : PySem.W.codeIn K cd15 "_law_draws" = true) (k15 : PySem.W.keepIn K (.ref f15) = true)
    (a16 : PySem.W.nsIn K mainGlobals "_law_same" = some (some (.ref f16)))
    (l16 : K.lookup f16 = some ⟨oc16, od16, .func (PySem.W.fnOf "_law_same" "_law_same" (defArgs s_law_same) (defBody s_law_same) (defScope s_law_same) .none kV16 dc16 pm16 an16 cd16 ct16), sl16⟩) (c16 : PySem.W.codeIn K cd16 "_law_same" = true) (k16 : PySem.W.keepIn K (.ref f16) = true)
    (a17 : PySem.W.nsIn K mainGlobals "_law_game" = some (some (.ref f17)))
    (l17 : K.lookup f17 = some ⟨oc17, od17, .func (PySem.W.fnOf "_law_game" "_law_game" (defArgs s_law_game) (defBody s_law_game) (defScope s_law_game) .none kV17 dc17 pm17 an17 cd17 ct17), sl17⟩) (c17 : PySem.W.codeIn K cd17 "_law_game" = true) (k17 : PySem.W.keepIn K (.ref f17) = true)
    (a18 : PySem.W.nsIn K mainGlobals "_law_fits" = some (some (.ref f18)))
    (l18 : K.lookup f18 = some ⟨oc18, od18, .func (PySem.W.fnOf "_law_fits" "_law_fits" (defArgs s_law_fits) (defBody s_law_fits) (defScope s_law_fits) .none kV18 dc18 pm18 an18 cd18 ct18), sl18⟩) (c18 : PySem.W.codeIn K cd18 "_law_fits" = true) (k18 : PySem.W.keepIn K (.ref f18) = true)
    (a19 : PySem.W.nsIn K mainGlobals "_law_spoilt" = some (some (.ref f19)))
    (l19 : K.lookup f19 = some ⟨oc19, od19, .func (PySem.W.fnOf "_law_spoilt" "_law_spoilt" (defArgs s_law_spoilt) (defBody s_law_spoilt) (defScope s_law_spoilt) .none kV19 dc19 pm19 an19 cd19 ct19), sl19⟩) (c19 : PySem.W.codeIn K cd19 "_law_spoilt" = true) (k19 : PySem.W.keepIn K (.ref f19) = true)
    (a20 : PySem.W.nsIn K mainGlobals "_law_made" = some (some (.ref f20)))
    (l20 : K.lookup f20 = some ⟨oc20, od20, .func (PySem.W.fnOf "_law_made" "_law_made" (defArgs s_law_made) (defBody s_law_made) (defScope s_law_made) .none kV20 dc20 pm20 an20 cd20 ct20), sl20⟩) (c20 : PySem.W.codeIn K cd20 "_law_made" = true) (k20 : PySem.W.keepIn K (.ref f20) = true)
    (a21 : PySem.W.nsIn K mainGlobals "_law_rows" = some (some (.ref f21)))
    (l21 : K.lookup f21 = some ⟨oc21, od21, .func (PySem.W.fnOf "_law_rows" "_law_rows" (defArgs s_law_rows) (defBody s_law_rows) (defScope s_law_rows) .none kV21 dc21 pm21 an21 cd21 ct21), sl21⟩) (c21 : PySem.W.codeIn K cd21 "_law_rows" = true) (k21 : PySem.W.keepIn K (.ref f21) = true)
    (a22 : PySem.W.nsIn K mainGlobals "_law_equal" = some (some (.ref f22)))
    (l22 : K.lookup f22 = some ⟨oc22, od22, .func (PySem.W.fnOf "_law_equal" "_law_equal" (defArgs s_law_equal) (defBody s_law_equal) (defScope s_law_equal) .none kV22 dc22 pm22 an22 cd22 ct22), sl22⟩) (c22 : PySem.W.codeIn K cd22 "_law_equal" = true) (k22 : PySem.W.keepIn K (.ref f22) = true)
    (a23 : PySem.W.nsIn K mainGlobals "_law_door" = some (some (.ref f23)))
    (l23 : K.lookup f23 = some ⟨oc23, od23, .func (PySem.W.fnOf "_law_door" "_law_door" (defArgs s_law_door) (defBody s_law_door) (defScope s_law_door) .none kV23 dc23 pm23 an23 cd23 ct23), sl23⟩) (c23 : PySem.W.codeIn K cd23 "_law_door" = true) (k23 : PySem.W.keepIn K (.ref f23) = true)
    (a24 : PySem.W.nsIn K mainGlobals "_law_due" = some (some (.ref f24)))
    (l24 : K.lookup f24 = some ⟨oc24, od24, .func (PySem.W.fnOf "_law_due" "_law_due" (defArgs s_law_due) (defBody s_law_due) (defScope s_law_due) .none kV24 dc24 pm24 an24 cd24 ct24), sl24⟩) (c24 : PySem.W.codeIn K cd24 "_law_due" = true) (k24 : PySem.W.keepIn K (.ref f24) = true)
    (a25 : PySem.W.nsIn K mainGlobals "_law_agrees" = some (some (.ref f25)))
    (l25 : K.lookup f25 = some ⟨oc25, od25, .func (PySem.W.fnOf "_law_agrees" "_law_agrees" (defArgs s_law_agrees) (defBody s_law_agrees) (defScope s_law_agrees) .none kV25 dc25 pm25 an25 cd25 ct25), sl25⟩) (c25 : PySem.W.codeIn K cd25 "_law_agrees" = true) (k25 : PySem.W.keepIn K (.ref f25) = true)
    (a26 : PySem.W.nsIn K mainGlobals "_law_asked" = some (some (.ref f26)))
    (l26 : K.lookup f26 = some ⟨oc26, od26, .func (PySem.W.fnOf "_law_asked" "_law_asked" (defArgs s_law_asked) (defBody s_law_asked) (defScope s_law_asked) .none kV26 dc26 pm26 an26 cd26 ct26), sl26⟩) (c26 : PySem.W.codeIn K cd26 "_law_asked" = true) (k26 : PySem.W.keepIn K (.ref f26) = true)
    (a27 : PySem.W.nsIn K mainGlobals "_law_refused" = some (some (.ref f27)))
    (l27 : K.lookup f27 = some ⟨oc27, od27, .func (PySem.W.fnOf "_law_refused" "_law_refused" (defArgs s_law_refused) (defBody s_law_refused) (defScope s_law_refused) .none kV27 dc27 pm27 an27 cd27 ct27), sl27⟩) (c27 : PySem.W.codeIn K cd27 "_law_refused" = true) (k27 : PySem.W.keepIn K (.ref f27) = true)
    (a28 : PySem.W.nsIn K mainGlobals "law" = some (some (.ref f28)))
    (l28 : K.lookup f28 = some ⟨oc28, od28, .func (PySem.W.fnOf "law" "law" (defArgs s_law) (defBody s_law) (defScope s_law) .none kV28 dc28 pm28 an28 cd28 ct28), sl28⟩) (c28 : PySem.W.codeIn K cd28 "law" = true) (k28 : PySem.W.keepIn K (.ref f28) = true)
    (g_Game : PySem.W.nsIn K mainGlobals "Game" = some (some (.ref C_Game))) (pg_Game : PySem.W.plainGet K C_Game Str.empty = true) (hd_Game : PySem.W.hasDictIn K C_Game = true) (po_Game : PySem.W.plainOver K C_Game = true) (sa_Game : PySem.W.findIn K (.ref C_Game) "__setattr__" = some (some (.builtin "object.__setattr__"))) (mk_Game : PySem.W.makesIn K C_Game = true) (kc_Game : PySem.W.keepIn K (.ref C_Game) = true)
    (hn_ : PySem.W.specialIn K (.builtin "object.__class__") "__get__" = some (some (.builtin "getset_descriptor.__get__"))) (ht_ : PySem.W.takesIn K (.builtin "object.__class__") = some true)
    (g_Fault : PySem.W.nsIn K mainGlobals "Fault" = some (some (.ref C_Fault))) (ga_Fault : PySem.W.findIn K (.ref C_Fault) "__getattribute__" = some (some (.builtin "BaseException.__getattribute__"))) (gg_Fault : PySem.W.findIn K (.ref C_Fault) "__getattr__" = some none) (sb_Fault : PySem.W.subIn K (.ref C_Fault) (.type "BaseException") = some true) (hd_Fault : PySem.W.hasDictIn K C_Fault = true) (ca_Fault : PySem.W.findIn K (.ref C_Fault) "__class__" = some (some (.builtin "object.__class__"))) (mo_Fault : PySem.W.mroIn K C_Fault (.type "object") = some true) (ty_Fault : PySem.W.typeIn K (.ref C_Fault) = some (.type "type")) (kp_Fault : PySem.W.keepIn K (.ref C_Fault) = true)
    (rd_Fault : PySem.W.readsIn K C_Fault (.type "type") = true) (sg_Fault : PySem.W.specialIn K (.ref C_Fault) "__getattribute__" = some (some (.builtin "type.__getattribute__"))) (fc_Fault : PySem.W.findCls K (.ref C_Fault) (.type "type") "__init__" = some (.val (.builtin "ValueError.__init__")))
    (g_BadGame : PySem.W.nsIn K mainGlobals "BadGame" = some (some (.ref C_BadGame))) (ga_BadGame : PySem.W.findIn K (.ref C_BadGame) "__getattribute__" = some (some (.builtin "BaseException.__getattribute__"))) (gg_BadGame : PySem.W.findIn K (.ref C_BadGame) "__getattr__" = some none) (sb_BadGame : PySem.W.subIn K (.ref C_BadGame) (.type "BaseException") = some true) (hd_BadGame : PySem.W.hasDictIn K C_BadGame = true) (ca_BadGame : PySem.W.findIn K (.ref C_BadGame) "__class__" = some (some (.builtin "object.__class__"))) (mo_BadGame : PySem.W.mroIn K C_BadGame (.type "object") = some true) (ty_BadGame : PySem.W.typeIn K (.ref C_BadGame) = some (.type "type")) (kp_BadGame : PySem.W.keepIn K (.ref C_BadGame) = true)
    (xi_BadGame : PySem.W.excIn K C_BadGame [.type "ValueError", .type "Exception", .type "BaseException", .type "object"] "ValueError.__new__" = true)
    (g_NoPerson : PySem.W.nsIn K mainGlobals "NoPerson" = some (some (.ref C_NoPerson))) (ga_NoPerson : PySem.W.findIn K (.ref C_NoPerson) "__getattribute__" = some (some (.builtin "BaseException.__getattribute__"))) (gg_NoPerson : PySem.W.findIn K (.ref C_NoPerson) "__getattr__" = some none) (sb_NoPerson : PySem.W.subIn K (.ref C_NoPerson) (.type "BaseException") = some true) (hd_NoPerson : PySem.W.hasDictIn K C_NoPerson = true) (ca_NoPerson : PySem.W.findIn K (.ref C_NoPerson) "__class__" = some (some (.builtin "object.__class__"))) (mo_NoPerson : PySem.W.mroIn K C_NoPerson (.type "object") = some true) (ty_NoPerson : PySem.W.typeIn K (.ref C_NoPerson) = some (.type "type")) (kp_NoPerson : PySem.W.keepIn K (.ref C_NoPerson) = true)
    (oc_NoPerson : K.lookup C_NoPerson = some (excClassObj nm_NoPerson qn_NoPerson C_NoPerson ns_NoPerson bs_NoPerson bm_NoPerson true sn_NoPerson sub_NoPerson ab_NoPerson col_NoPerson dd_NoPerson k0_NoPerson k1_NoPerson k2_NoPerson k3_NoPerson k5_NoPerson "ValueError.__new__")) (om_NoPerson : PySem.HandSPX.refsVE bm_NoPerson = true) (sa_NoPerson : PySem.W.findIn K (.ref C_NoPerson) "__setattr__" = some (some (.builtin "object.__setattr__")))
    (g_NoWorld : PySem.W.nsIn K mainGlobals "NoWorld" = some (some (.ref C_NoWorld))) (ga_NoWorld : PySem.W.findIn K (.ref C_NoWorld) "__getattribute__" = some (some (.builtin "BaseException.__getattribute__"))) (gg_NoWorld : PySem.W.findIn K (.ref C_NoWorld) "__getattr__" = some none) (sb_NoWorld : PySem.W.subIn K (.ref C_NoWorld) (.type "BaseException") = some true) (hd_NoWorld : PySem.W.hasDictIn K C_NoWorld = true) (ca_NoWorld : PySem.W.findIn K (.ref C_NoWorld) "__class__" = some (some (.builtin "object.__class__"))) (mo_NoWorld : PySem.W.mroIn K C_NoWorld (.type "object") = some true) (ty_NoWorld : PySem.W.typeIn K (.ref C_NoWorld) = some (.type "type")) (kp_NoWorld : PySem.W.keepIn K (.ref C_NoWorld) = true)
    (oc_NoWorld : K.lookup C_NoWorld = some (excClassObj nm_NoWorld qn_NoWorld C_NoWorld ns_NoWorld bs_NoWorld bm_NoWorld true sn_NoWorld sub_NoWorld ab_NoWorld col_NoWorld dd_NoWorld k0_NoWorld k1_NoWorld k2_NoWorld k3_NoWorld k5_NoWorld "ValueError.__new__")) (om_NoWorld : PySem.HandSPX.refsVE bm_NoWorld = true) (sa_NoWorld : PySem.W.findIn K (.ref C_NoWorld) "__setattr__" = some (some (.builtin "object.__setattr__")))
    (g_NoChoice : PySem.W.nsIn K mainGlobals "NoChoice" = some (some (.ref C_NoChoice))) (ga_NoChoice : PySem.W.findIn K (.ref C_NoChoice) "__getattribute__" = some (some (.builtin "BaseException.__getattribute__"))) (gg_NoChoice : PySem.W.findIn K (.ref C_NoChoice) "__getattr__" = some none) (sb_NoChoice : PySem.W.subIn K (.ref C_NoChoice) (.type "BaseException") = some true) (hd_NoChoice : PySem.W.hasDictIn K C_NoChoice = true) (ca_NoChoice : PySem.W.findIn K (.ref C_NoChoice) "__class__" = some (some (.builtin "object.__class__"))) (mo_NoChoice : PySem.W.mroIn K C_NoChoice (.type "object") = some true) (ty_NoChoice : PySem.W.typeIn K (.ref C_NoChoice) = some (.type "type")) (kp_NoChoice : PySem.W.keepIn K (.ref C_NoChoice) = true)
    (oc_NoChoice : K.lookup C_NoChoice = some (excClassObj nm_NoChoice qn_NoChoice C_NoChoice ns_NoChoice bs_NoChoice bm_NoChoice true sn_NoChoice sub_NoChoice ab_NoChoice col_NoChoice dd_NoChoice k0_NoChoice k1_NoChoice k2_NoChoice k3_NoChoice k5_NoChoice "ValueError.__new__")) (om_NoChoice : PySem.HandSPX.refsVE bm_NoChoice = true) (sa_NoChoice : PySem.W.findIn K (.ref C_NoChoice) "__setattr__" = some (some (.builtin "object.__setattr__")))
    (s_BadGame_BadGame : PySem.W.subIn K (.ref C_BadGame) (.ref C_BadGame) = some true)
    (s_BadGame_Fault : PySem.W.subIn K (.ref C_BadGame) (.ref C_Fault) = some true)
    (s_BadGame_NoChoice : PySem.W.subIn K (.ref C_BadGame) (.ref C_NoChoice) = some false)
    (s_BadGame_NoPerson : PySem.W.subIn K (.ref C_BadGame) (.ref C_NoPerson) = some false)
    (s_BadGame_NoWorld : PySem.W.subIn K (.ref C_BadGame) (.ref C_NoWorld) = some false)
    (sv_BadGame : PySem.W.subIn K (.ref C_BadGame) (.type "ValueError") = some true)
    (s_NoChoice_BadGame : PySem.W.subIn K (.ref C_NoChoice) (.ref C_BadGame) = some false)
    (s_NoChoice_Fault : PySem.W.subIn K (.ref C_NoChoice) (.ref C_Fault) = some true)
    (s_NoChoice_NoChoice : PySem.W.subIn K (.ref C_NoChoice) (.ref C_NoChoice) = some true)
    (s_NoChoice_NoPerson : PySem.W.subIn K (.ref C_NoChoice) (.ref C_NoPerson) = some false)
    (s_NoChoice_NoWorld : PySem.W.subIn K (.ref C_NoChoice) (.ref C_NoWorld) = some false)
    (s_NoPerson_BadGame : PySem.W.subIn K (.ref C_NoPerson) (.ref C_BadGame) = some false)
    (s_NoPerson_Fault : PySem.W.subIn K (.ref C_NoPerson) (.ref C_Fault) = some true)
    (s_NoPerson_NoChoice : PySem.W.subIn K (.ref C_NoPerson) (.ref C_NoChoice) = some false)
    (s_NoPerson_NoPerson : PySem.W.subIn K (.ref C_NoPerson) (.ref C_NoPerson) = some true)
    (s_NoPerson_NoWorld : PySem.W.subIn K (.ref C_NoPerson) (.ref C_NoWorld) = some false)
    (s_NoWorld_BadGame : PySem.W.subIn K (.ref C_NoWorld) (.ref C_BadGame) = some false)
    (s_NoWorld_Fault : PySem.W.subIn K (.ref C_NoWorld) (.ref C_Fault) = some true)
    (s_NoWorld_NoChoice : PySem.W.subIn K (.ref C_NoWorld) (.ref C_NoChoice) = some false)
    (s_NoWorld_NoPerson : PySem.W.subIn K (.ref C_NoWorld) (.ref C_NoPerson) = some false)
    (s_NoWorld_NoWorld : PySem.W.subIn K (.ref C_NoWorld) (.ref C_NoWorld) = some true)
    (z6 : PySem.W.findIn K (.ref C_Game) "_choices" = some none)
    (z7 : PySem.W.findIn K (.ref C_Game) "_pays" = some none)
    (z8 : PySem.W.findIn K (.ref C_Game) "_steps" = some none)
    (z10 : PySem.W.findIn K (.ref C_Game) "outcomes" = some none)
    (z11 : PySem.W.findIn K (.ref C_Game) "people" = some none)
    (z12 : PySem.W.nsIn K mainGlobals "MOST_CHOICES" = some (some (.int 4 t12)))
    (z13 : PySem.W.nsIn K mainGlobals "MOST_OUTCOMES" = some (some (.int 12 t13)))
    (z14 : PySem.W.nsIn K mainGlobals "MOST_PAY" = some (some (.int 99 t14)))
    (z15 : PySem.W.nsIn K mainGlobals "MOST_PLAYERS" = some (some (.int 3 t15)))
    (z16 : PySem.W.findIn K (.ref C_NoChoice) "choice" = some none)
    (z22 : PySem.W.findIn K (.ref C_NoPerson) "person" = some none)
    (z27 : PySem.W.findIn K (.ref C_NoWorld) "world" = some none)
    (z28 : PySem.W.nsIn K mainGlobals "ValueError" = some none)
    (z29 : PySem.W.nsIn K mainGlobals "bool" = some none)
    (z30 : PySem.W.nsIn K mainGlobals "int" = some none)
    (z31 : PySem.W.nsIn K mainGlobals "isinstance" = some none)
    (z49 : PySem.W.nsIn K mainGlobals "len" = some none)
    (z50 : PySem.W.nsIn K mainGlobals "list" = some none)
    (z51 : PySem.W.nsIn K mainGlobals "min" = some none)
    (z52 : PySem.W.nsIn K mainGlobals "range" = some none)
    (z53 : PySem.W.nsIn K mainGlobals "tuple" = some none) :
    ∃ fd : FuncData, (∀ (s : Shared) (v : Value), BindsTo s fd ⟨[v], []⟩ [("script", v)]) ∧ ∀ base : Heap, K.In base → base.Ns mainGlobals mg → FnOk l.prog w K mg base CX0 9 fa fd ["script"] (spD K P_law) := by
  have gm : Gm K mg C_Game C_Fault C_BadGame C_NoPerson C_NoWorld C_NoChoice := ⟨⟨ga_BadGame, gg_BadGame, sb_BadGame, hd_BadGame, ca_BadGame, hn_, ht_, mo_BadGame⟩, PySem.W.exm_ref sb_Fault hd_Fault ty_Fault s_BadGame_Fault, ⟨xi_BadGame, PySem.W.mg_of X G g_BadGame, kp_BadGame, sb_BadGame, ty_BadGame⟩, PySem.W.mg_of X G g_BadGame, ⟨PySem.W.mg_of X G g_Fault, rd_Fault, sg_Fault, fc_Fault⟩, PySem.W.mg_of X G g_Fault, z6, z7, z8, ⟨pg_Game, hd_Game, po_Game, sa_Game⟩, z10, z11, ⟨_, PySem.W.mg_of X G z12⟩, ⟨_, PySem.W.mg_of X G z13⟩, ⟨_, PySem.W.mg_of X G z14⟩, ⟨_, PySem.W.mg_of X G z15⟩, z16, ⟨ga_NoChoice, gg_NoChoice, sb_NoChoice, hd_NoChoice, ca_NoChoice, hn_, ht_, mo_NoChoice⟩, PySem.W.exm_ref sb_Fault hd_Fault ty_Fault s_NoChoice_Fault, PySem.W.mg_of X G g_NoChoice, ⟨ga_NoPerson, gg_NoPerson, sb_NoPerson, hd_NoPerson, ca_NoPerson, hn_, ht_, mo_NoPerson⟩, PySem.W.exm_ref sb_Fault hd_Fault ty_Fault s_NoPerson_Fault, z22, PySem.W.mg_of X G g_NoPerson, ⟨ga_NoWorld, gg_NoWorld, sb_NoWorld, hd_NoWorld, ca_NoWorld, hn_, ht_, mo_NoWorld⟩, PySem.W.exm_ref sb_Fault hd_Fault ty_Fault s_NoWorld_Fault, PySem.W.mg_of X G g_NoWorld, z27, PySem.W.mg_none_of X G z28, PySem.W.mg_none_of X G z29, PySem.W.mg_none_of X G z30, PySem.W.mg_none_of X G z31, kit_T s_BadGame_BadGame hd_BadGame ty_BadGame, kit_F s_BadGame_BadGame s_BadGame_NoChoice hd_NoChoice ty_NoChoice, kit_F s_BadGame_BadGame s_BadGame_NoPerson hd_NoPerson ty_NoPerson, kit_F s_BadGame_BadGame s_BadGame_NoWorld hd_NoWorld ty_NoWorld, kit_VE sv_BadGame, kit_F s_NoChoice_NoChoice s_NoChoice_BadGame hd_BadGame ty_BadGame, kit_T s_NoChoice_NoChoice hd_NoChoice ty_NoChoice, kit_F s_NoChoice_NoChoice s_NoChoice_NoPerson hd_NoPerson ty_NoPerson, kit_F s_NoChoice_NoChoice s_NoChoice_NoWorld hd_NoWorld ty_NoWorld, kit_F s_NoPerson_NoPerson s_NoPerson_BadGame hd_BadGame ty_BadGame, kit_F s_NoPerson_NoPerson s_NoPerson_NoChoice hd_NoChoice ty_NoChoice, kit_T s_NoPerson_NoPerson hd_NoPerson ty_NoPerson, kit_F s_NoPerson_NoPerson s_NoPerson_NoWorld hd_NoWorld ty_NoWorld, kit_F s_NoWorld_NoWorld s_NoWorld_BadGame hd_BadGame ty_BadGame, kit_F s_NoWorld_NoWorld s_NoWorld_NoChoice hd_NoChoice ty_NoChoice, kit_F s_NoWorld_NoWorld s_NoWorld_NoPerson hd_NoPerson ty_NoPerson, kit_T s_NoWorld_NoWorld hd_NoWorld ty_NoWorld, PySem.W.mg_none_of X G z49, PySem.W.mg_none_of X G z50, PySem.W.mg_none_of X G z51, PySem.W.mg_none_of X G z52, PySem.W.mg_none_of X G z53⟩
  have D0 : Dx K mg "NoPerson" C_NoPerson "NoPerson.__init__" s_NoPerson_init ["self", "person"] := ⟨⟨f0, _, fun_mk l0 c0 k0, a0, i0, (fun_mk l0 c0 k0).binds fun _ _ _ _ _ _ us hl => match us, hl with | [_, _], _ => rfl⟩, PySem.W.mg_of X G g_NoPerson, ⟨⟨_, _, _, _, _, _, _, _, _, _, _, _, _, _, _, oc_NoPerson, om_NoPerson⟩, sa_NoPerson, sb_NoPerson, ty_NoPerson, kp_NoPerson⟩⟩
  have D1 : Dx K mg "NoWorld" C_NoWorld "NoWorld.__init__" s_NoWorld_init ["self", "world"] := ⟨⟨f1, _, fun_mk l1 c1 k1, a1, i1, (fun_mk l1 c1 k1).binds fun _ _ _ _ _ _ us hl => match us, hl with | [_, _], _ => rfl⟩, PySem.W.mg_of X G g_NoWorld, ⟨⟨_, _, _, _, _, _, _, _, _, _, _, _, _, _, _, oc_NoWorld, om_NoWorld⟩, sa_NoWorld, sb_NoWorld, ty_NoWorld, kp_NoWorld⟩⟩
  have D2 : Dx K mg "NoChoice" C_NoChoice "NoChoice.__init__" s_NoChoice_init ["self", "choice"] := ⟨⟨f2, _, fun_mk l2 c2 k2, a2, i2, (fun_mk l2 c2 k2).binds fun _ _ _ _ _ _ us hl => match us, hl with | [_, _], _ => rfl⟩, PySem.W.mg_of X G g_NoChoice, ⟨⟨_, _, _, _, _, _, _, _, _, _, _, _, _, _, _, oc_NoChoice, om_NoChoice⟩, sa_NoChoice, sb_NoChoice, ty_NoChoice, kp_NoChoice⟩⟩
  have D3 : Df K mg "check_player" s_check_player ["game", "person"] := df_of X G a3 l3 c3 k3 fun _ _ _ _ _ _ us hl => match us, hl with | [_, _], _ => rfl
  have D4 : Df K mg "check_outcome" s_check_outcome ["game", "outcome"] := df_of X G a4 l4 c4 k4 fun _ _ _ _ _ _ us hl => match us, hl with | [_, _], _ => rfl
  have D5 : Df K mg "counted" s_counted ["choices"] := df_of X G a5 l5 c5 k5 fun _ _ _ _ _ _ us hl => match us, hl with | [_], _ => rfl
  have D6 : Df K mg "check_pays" s_check_pays ["pays", "people", "outcomes"] := df_of X G a6 l6 c6 k6 fun _ _ _ _ _ _ us hl => match us, hl with | [_, _, _], _ => rfl
  have D7 : Di K mg C_Game "Game" "Game.__init__" s_Game_init ["self", "choices", "pays"] := ⟨f7, _, fun_mk l7 c7 k7, ⟨mk_Game, a7, i7, kc_Game⟩, PySem.W.mg_of X G g_Game, (fun_mk l7 c7 k7).binds fun _ _ _ _ _ _ us hl => match us, hl with | [_, _, _], _ => rfl⟩
  have D8 : Dm K C_Game "choices" "Game.choices" s_Game_choices ["self"] := ⟨f8, _, fun_mk l8 c8 k8, ⟨a8, i8, k8⟩, (fun_mk l8 c8 k8).binds fun _ _ _ _ _ _ us hl => match us, hl with | [_], _ => rfl⟩
  have D9 : Df K mg "check_choice" s_check_choice ["game", "person", "choice"] := df_of X G a9 l9 c9 k9 fun _ _ _ _ _ _ us hl => match us, hl with | [_, _, _], _ => rfl
  have D10 : Dm K C_Game "chosen" "Game.chosen" s_Game_chosen ["self", "person", "outcome"] := ⟨f10, _, fun_mk l10 c10 k10, ⟨a10, i10, k10⟩, (fun_mk l10 c10 k10).binds fun _ _ _ _ _ _ us hl => match us, hl with | [_, _, _], _ => rfl⟩
  have D11 : Dm K C_Game "pay" "Game.pay" s_Game_pay ["self", "person", "outcome"] := ⟨f11, _, fun_mk l11 c11 k11, ⟨a11, i11, k11⟩, (fun_mk l11 c11 k11).binds fun _ _ _ _ _ _ us hl => match us, hl with | [_, _, _], _ => rfl⟩
  have D12 : Dm K C_Game "switched" "Game.switched" s_Game_switched ["self", "person", "outcome", "choice"] := ⟨f12, _, fun_mk l12 c12 k12, ⟨a12, i12, k12⟩, (fun_mk l12 c12 k12).binds fun _ _ _ _ _ _ us hl => match us, hl with | [_, _, _, _], _ => rfl⟩
  have D13 : Dm K C_Game "sights" "Game.sights" s_Game_sights ["self"] := ⟨f13, _, fun_mk l13 c13 k13, ⟨a13, i13, k13⟩, (fun_mk l13 c13 k13).binds fun _ _ _ _ _ _ us hl => match us, hl with | [_], _ => rfl⟩
  have D14 : Df K mg "_law_cell" s_law_cell ["script", "k"] := df_of X G a14 l14 c14 k14 fun _ _ _ _ _ _ us hl => match us, hl with | [_, _], _ => rfl
  have D15 : Df K mg "_law_draws" s_law_draws ["cell", "sizes"] := df_of X G a15 l15 c15 k15 fun _ _ _ _ _ _ us hl => match us, hl with | [_, _], _ => rfl
  have D16 : Df K mg "_law_same" s_law_same ["actual", "due"] := df_of X G a16 l16 c16 k16 fun _ _ _ _ _ _ us hl => match us, hl with | [_, _], _ => rfl
  have D17 : Df K mg "_law_game" s_law_game ["script"] := df_of X G a17 l17 c17 k17 fun _ _ _ _ _ _ us hl => match us, hl with | [_], _ => rfl
  have D18 : Df K mg "_law_fits" s_law_fits ["choices", "pays"] := df_of X G a18 l18 c18 k18 fun _ _ _ _ _ _ us hl => match us, hl with | [_, _], _ => rfl
  have D19 : Df K mg "_law_spoilt" s_law_spoilt ["choices", "pays", "drawn"] := df_of X G a19 l19 c19 k19 fun _ _ _ _ _ _ us hl => match us, hl with | [_, _, _], _ => rfl
  have D20 : Df K mg "_law_made" s_law_made ["choices", "pays"] := df_of X G a20 l20 c20 k20 fun _ _ _ _ _ _ us hl => match us, hl with | [_, _], _ => rfl
  have D21 : Df K mg "_law_rows" s_law_rows ["choices"] := df_of X G a21 l21 c21 k21 fun _ _ _ _ _ _ us hl => match us, hl with | [_], _ => rfl
  have D22 : Df K mg "_law_equal" s_law_equal ["answer", "due"] := df_of X G a22 l22 c22 k22 fun _ _ _ _ _ _ us hl => match us, hl with | [_, _], _ => rfl
  have D23 : Df K mg "_law_door" s_law_door ["game", "door", "person", "outcome", "choice"] := df_of X G a23 l23 c23 k23 fun _ _ _ _ _ _ us hl => match us, hl with | [_, _, _, _, _], _ => rfl
  have D24 : Df K mg "_law_due" s_law_due ["tables", "rows", "door", "person", "outcome", "choice"] := df_of X G a24 l24 c24 k24 fun _ _ _ _ _ _ us hl => match us, hl with | [_, _, _, _, _, _], _ => rfl
  have D25 : Df K mg "_law_agrees" s_law_agrees ["game", "tables", "rows", "door", "person", "outcome", "choice"] := df_of X G a25 l25 c25 k25 fun _ _ _ _ _ _ us hl => match us, hl with | [_, _, _, _, _, _, _], _ => rfl
  have D26 : Df K mg "_law_asked" s_law_asked ["game", "tables", "rows"] := df_of X G a26 l26 c26 k26 fun _ _ _ _ _ _ us hl => match us, hl with | [_, _, _], _ => rfl
  have D27 : Df K mg "_law_refused" s_law_refused ["game", "tables", "rows", "drawn"] := df_of X G a27 l27 c27 k27 fun _ _ _ _ _ _ us hl => match us, hl with | [_, _, _, _], _ => rfl
  refine law_end X G hfa a28 l28 c28 k28 _ (fun s v => .of_eq rfl) fun fd base F => ?_
  have G_NoPerson := ok_NoPerson (P := l.prog) (w := w) (base := base) D0 gm 
  have G_NoWorld := ok_NoWorld (P := l.prog) (w := w) (base := base) D1 gm 
  have G_NoChoice := ok_NoChoice (P := l.prog) (w := w) (base := base) D2 gm 
  have G_check_player := ok_check_player (P := l.prog) (w := w) (base := base) D3 gm G_NoPerson
  have G_check_outcome := ok_check_outcome (P := l.prog) (w := w) (base := base) D4 gm G_NoWorld
  have G_counted := ok_counted (P := l.prog) (w := w) (base := base) D5 gm 
  have G_check_pays := ok_check_pays (P := l.prog) (w := w) (base := base) D6 gm 
  have G_Game := ok_Game_init (P := l.prog) (w := w) (base := base) D7 gm G_counted G_check_pays
  have G_Game_choices := ok_Game_choices (P := l.prog) (w := w) (base := base) D8 gm 
  have G_check_choice := ok_check_choice (P := l.prog) (w := w) (base := base) D9 gm G_NoChoice G_Game_choices
  have G_Game_chosen := ok_Game_chosen (P := l.prog) (w := w) (base := base) D10 gm G_check_player G_check_outcome
  have G_Game_pay := ok_Game_pay (P := l.prog) (w := w) (base := base) D11 gm G_check_player G_check_outcome
  have G_Game_switched := ok_Game_switched (P := l.prog) (w := w) (base := base) D12 gm G_Game_chosen G_check_choice
  have G_Game_sights := ok_Game_sights (P := l.prog) (w := w) (base := base) D13 gm G_Game_chosen
  have G_law_cell := ok_cell (P := l.prog) (w := w) (base := base) D14 gm 
  have G_law_draws := ok_draws (P := l.prog) (w := w) (base := base) D15 gm 
  have G_law_same := ok_same (P := l.prog) (w := w) (base := base) D16 gm 3
  have G_law_game := ok_lgame (P := l.prog) (w := w) (base := base) D17 gm G_law_draws G_law_cell
  have G_law_fits := ok_fits (P := l.prog) (w := w) (base := base) D18 gm 
  have G_law_spoilt := ok_spoilt (P := l.prog) (w := w) (base := base) D19 gm 
  have G_law_made := ok_made (P := l.prog) (w := w) (base := base) D20 gm G_Game
  have G_law_rows := ok_rows (P := l.prog) (w := w) (base := base) D21 gm 
  have G_law_equal := ok_equal (P := l.prog) (w := w) (base := base) D22 gm G_law_same
  have G_law_door := ok_door (P := l.prog) (w := w) (base := base) D23 gm G_Game_chosen G_Game_pay G_Game_switched
  have G_law_due := ok_due (P := l.prog) (w := w) (base := base) D24 gm 
  have G_law_agrees := ok_agrees (P := l.prog) (w := w) (base := base) D25 gm G_law_due G_law_equal G_law_door
  have G_law_asked := ok_asked (P := l.prog) (w := w) (base := base) D26 gm G_law_same G_Game_choices G_Game_sights G_law_agrees
  have G_law_refused := ok_refused (P := l.prog) (w := w) (base := base) D27 gm G_law_agrees
  exact ok_law (P := l.prog) (w := w) (base := base) F gm G_law_game G_law_draws G_law_cell G_law_spoilt G_law_made G_law_fits G_law_rows G_law_asked G_law_refused G_Game_choices G_Game_sights
end FS
open PySem PySem.W PyProof.Rows
set_option maxHeartbeats 0 in
theorem PySem.Challenge.cw_fairstart_k29_games_and_outcomes_holds : PySem.Challenge.rw_fairstart_k29_games_and_outcomes.Holds := by
  w_on; o_law; k_head; (case hw => w_witness2)
  k_fill
  refine L2.walk_ofK (l := PySem.Challenge.rw_fairstart_k29_games_and_outcomes) (n := 63) (k := 9) (x := "script") (CX := L2.CX0) (sp := fun K => FS.spD K FS.P_law) rfl (by decide) rfl ⟨rfl, by decide, by decide⟩ (fun w h Y => PySem.W.kIn_of Y) ?F (fun _ _ a ns hl _ hS => FS.sp_law hS) (fun _ _ _ _ h => h)
  case F =>
    intro w mg fa h KX G hmg
    refine' FS.all_mk KX G hmg ?a0 ?i0 ?l0 ?c0 ?k0 ?a1 ?i1 ?l1 ?c1 ?k1 ?a2 ?i2 ?l2 ?c2 ?k2 ?a3 ?l3 ?c3 ?k3 ?a4 ?l4 ?c4 ?k4 ?a5 ?l5 ?c5 ?k5 ?a6 ?l6 ?c6 ?k6 ?a7 ?i7 ?l7 ?c7 ?k7 ?a8 ?i8 ?l8 ?c8 ?k8 ?a9 ?l9 ?c9 ?k9 ?a10 ?i10 ?l10 ?c10 ?k10 ?a11 ?i11 ?l11 ?c11 ?k11 ?a12 ?i12 ?l12 ?c12 ?k12 ?a13 ?i13 ?l13 ?c13 ?k13 ?a14 ?l14 ?c14 ?k14 ?a15 ?l15 ?c15 ?k15 ?a16 ?l16 ?c16 ?k16 ?a17 ?l17 ?c17 ?k17 ?a18 ?l18 ?c18 ?k18 ?a19 ?l19 ?c19 ?k19 ?a20 ?l20 ?c20 ?k20 ?a21 ?l21 ?c21 ?k21 ?a22 ?l22 ?c22 ?k22 ?a23 ?l23 ?c23 ?k23 ?a24 ?l24 ?c24 ?k24 ?a25 ?l25 ?c25 ?k25 ?a26 ?l26 ?c26 ?k26 ?a27 ?l27 ?c27 ?k27 ?a28 ?l28 ?c28 ?k28 ?g_Game ?pg_Game ?hd_Game ?po_Game ?sa_Game ?mk_Game ?kc_Game ?hn_ ?ht_ ?g_Fault ?ga_Fault ?gg_Fault ?sb_Fault ?hd_Fault ?ca_Fault ?mo_Fault ?ty_Fault ?kp_Fault ?rd_Fault ?sg_Fault ?fc_Fault ?g_BadGame ?ga_BadGame ?gg_BadGame ?sb_BadGame ?hd_BadGame ?ca_BadGame ?mo_BadGame ?ty_BadGame ?kp_BadGame ?xi_BadGame ?g_NoPerson ?ga_NoPerson ?gg_NoPerson ?sb_NoPerson ?hd_NoPerson ?ca_NoPerson ?mo_NoPerson ?ty_NoPerson ?kp_NoPerson ?oc_NoPerson ?om_NoPerson ?sa_NoPerson ?g_NoWorld ?ga_NoWorld ?gg_NoWorld ?sb_NoWorld ?hd_NoWorld ?ca_NoWorld ?mo_NoWorld ?ty_NoWorld ?kp_NoWorld ?oc_NoWorld ?om_NoWorld ?sa_NoWorld ?g_NoChoice ?ga_NoChoice ?gg_NoChoice ?sb_NoChoice ?hd_NoChoice ?ca_NoChoice ?mo_NoChoice ?ty_NoChoice ?kp_NoChoice ?oc_NoChoice ?om_NoChoice ?sa_NoChoice ?s_BadGame_BadGame ?s_BadGame_Fault ?s_BadGame_NoChoice ?s_BadGame_NoPerson ?s_BadGame_NoWorld ?sv_BadGame ?s_NoChoice_BadGame ?s_NoChoice_Fault ?s_NoChoice_NoChoice ?s_NoChoice_NoPerson ?s_NoChoice_NoWorld ?s_NoPerson_BadGame ?s_NoPerson_Fault ?s_NoPerson_NoChoice ?s_NoPerson_NoPerson ?s_NoPerson_NoWorld ?s_NoWorld_BadGame ?s_NoWorld_Fault ?s_NoWorld_NoChoice ?s_NoWorld_NoPerson ?s_NoWorld_NoWorld ?z6 ?z7 ?z8 ?z10 ?z11 ?z12 ?z13 ?z14 ?z15 ?z16 ?z22 ?z27 ?z28 ?z29 ?z30 ?z31 ?z49 ?z50 ?z51 ?z52 ?z53
    (case g_Game => k_is); (case g_Fault => k_is); (case g_BadGame => k_is); (case g_NoPerson => k_is); (case g_NoWorld => k_is); (case g_NoChoice => k_is); (case pg_Game => k_is); (case hd_Game => k_is); (case po_Game => k_is); (case sa_Game => k_is); (case mk_Game => k_is); (case kc_Game => k_is); (case hn_ => k_is); (case ht_ => k_is); (case ga_Fault => k_is); (case gg_Fault => k_is); (case sb_Fault => k_is); (case hd_Fault => k_is); (case ca_Fault => k_is); (case mo_Fault => k_is); (case ty_Fault => k_is); (case kp_Fault => k_is); (case rd_Fault => k_is); (case sg_Fault => k_is); (case fc_Fault => k_is); (case ga_BadGame => k_is); (case gg_BadGame => k_is); (case sb_BadGame => k_is); (case hd_BadGame => k_is); (case ca_BadGame => k_is); (case mo_BadGame => k_is); (case ty_BadGame => k_is); (case kp_BadGame => k_is); (case xi_BadGame => k_exc); (case ga_NoPerson => k_is); (case gg_NoPerson => k_is); (case sb_NoPerson => k_is); (case hd_NoPerson => k_is); (case ca_NoPerson => k_is); (case mo_NoPerson => k_is); (case ty_NoPerson => k_is); (case kp_NoPerson => k_is); (case oc_NoPerson => k_is); (case sa_NoPerson => k_is); (case ga_NoWorld => k_is); (case gg_NoWorld => k_is); (case sb_NoWorld => k_is); (case hd_NoWorld => k_is); (case ca_NoWorld => k_is); (case mo_NoWorld => k_is); (case ty_NoWorld => k_is); (case kp_NoWorld => k_is); (case oc_NoWorld => k_is); (case sa_NoWorld => k_is); (case ga_NoChoice => k_is); (case gg_NoChoice => k_is); (case sb_NoChoice => k_is); (case hd_NoChoice => k_is); (case ca_NoChoice => k_is); (case mo_NoChoice => k_is); (case ty_NoChoice => k_is); (case kp_NoChoice => k_is); (case oc_NoChoice => k_is); (case sa_NoChoice => k_is); (case s_BadGame_BadGame => k_is); (case s_BadGame_Fault => k_is); (case s_BadGame_NoChoice => k_is); (case s_BadGame_NoPerson => k_is); (case s_BadGame_NoWorld => k_is); (case sv_BadGame => k_is); (case s_NoChoice_BadGame => k_is); (case s_NoChoice_Fault => k_is); (case s_NoChoice_NoChoice => k_is); (case s_NoChoice_NoPerson => k_is); (case s_NoChoice_NoWorld => k_is); (case s_NoPerson_BadGame => k_is); (case s_NoPerson_Fault => k_is); (case s_NoPerson_NoChoice => k_is); (case s_NoPerson_NoPerson => k_is); (case s_NoPerson_NoWorld => k_is); (case s_NoWorld_BadGame => k_is); (case s_NoWorld_Fault => k_is); (case s_NoWorld_NoChoice => k_is); (case s_NoWorld_NoPerson => k_is); (case s_NoWorld_NoWorld => k_is); (case a0 => k_is); (case i0 => k_is); (case l0 => k_is); (case c0 => k_is); (case k0 => k_is); (case a1 => k_is); (case i1 => k_is); (case l1 => k_is); (case c1 => k_is); (case k1 => k_is); (case a2 => k_is); (case i2 => k_is); (case l2 => k_is); (case c2 => k_is); (case k2 => k_is); (case a3 => k_is); (case l3 => k_is); (case c3 => k_is); (case k3 => k_is); (case a4 => k_is); (case l4 => k_is); (case c4 => k_is); (case k4 => k_is); (case a5 => k_is); (case l5 => k_is); (case c5 => k_is); (case k5 => k_is); (case a6 => k_is); (case l6 => k_is); (case c6 => k_is); (case k6 => k_is); (case a7 => k_is); (case i7 => k_is); (case l7 => k_is); (case c7 => k_is); (case k7 => k_is); (case a8 => k_is); (case i8 => k_is); (case l8 => k_is); (case c8 => k_is); (case k8 => k_is); (case a9 => k_is); (case l9 => k_is); (case c9 => k_is); (case k9 => k_is); (case a10 => k_is); (case i10 => k_is); (case l10 => k_is); (case c10 => k_is); (case k10 => k_is); (case a11 => k_is); (case i11 => k_is); (case l11 => k_is); (case c11 => k_is); (case k11 => k_is); (case a12 => k_is); (case i12 => k_is); (case l12 => k_is); (case c12 => k_is); (case k12 => k_is); (case a13 => k_is); (case i13 => k_is); (case l13 => k_is); (case c13 => k_is); (case k13 => k_is); (case a14 => k_is); (case l14 => k_is); (case c14 => k_is); (case k14 => k_is); (case a15 => k_is); (case l15 => k_is); (case c15 => k_is); (case k15 => k_is); (case a16 => k_is); (case l16 => k_is); (case c16 => k_is); (case k16 => k_is); (case a17 => k_is); (case l17 => k_is); (case c17 => k_is); (case k17 => k_is); (case a18 => k_is); (case l18 => k_is); (case c18 => k_is); (case k18 => k_is); (case a19 => k_is); (case l19 => k_is); (case c19 => k_is); (case k19 => k_is); (case a20 => k_is); (case l20 => k_is); (case c20 => k_is); (case k20 => k_is); (case a21 => k_is); (case l21 => k_is); (case c21 => k_is); (case k21 => k_is); (case a22 => k_is); (case l22 => k_is); (case c22 => k_is); (case k22 => k_is); (case a23 => k_is); (case l23 => k_is); (case c23 => k_is); (case k23 => k_is); (case a24 => k_is); (case l24 => k_is); (case c24 => k_is); (case k24 => k_is); (case a25 => k_is); (case l25 => k_is); (case c25 => k_is); (case k25 => k_is); (case a26 => k_is); (case l26 => k_is); (case c26 => k_is); (case k26 => k_is); (case a27 => k_is); (case l27 => k_is); (case c27 => k_is); (case k27 => k_is); (case a28 => k_is); (case l28 => k_is); (case c28 => k_is); (case k28 => k_is); (case z6 => k_is); (case z7 => k_is); (case z8 => k_is); (case z10 => k_is); (case z11 => k_is); (case z12 => k_is); (case z13 => k_is); (case z14 => k_is); (case z15 => k_is); (case z16 => k_is); (case z22 => k_is); (case z27 => k_is); (case z28 => k_is); (case z29 => k_is); (case z30 => k_is); (case z31 => k_is); (case z49 => k_is); (case z50 => k_is); (case z51 => k_is); (case z52 => k_is); (case z53 => k_is); (case om_NoPerson => decide +kernel); (case om_NoWorld => decide +kernel); (case om_NoChoice => decide +kernel)
