import PyProof.Rows.All
import Wide.All
import OpenK.AllK
import Wide.FinOn
import HandS.ForMost
import HandS.Star
import HandS.Gcd
import HandS.Wide
import HandS.IsInst
import HandS.ExcOwn
import HandS.Flow
import HandS.WordsExc
import PyProof.ListRange
import PyProof.RangeFor
import HandS.SortInts
import HandS.WordsDict
import HandS.ExcInit
import HandS.ExcIs
import HandS.ExcField
import HandS.ClsMeth
import HandS.TryOnly
import HandS.ExcCtx
import HandS.WrittenGet
import HandS.HotCalls
import HandS.CallSlots
import HandS.Deep
import HandS.CallLocal
import PySem.Str
import PySem.Challenge.RW_fairstart_k06_books_of_one_start
set_option Elab.async false
set_option linter.all false
set_option maxRecDepth 100000
set_option maxHeartbeats 4000000
/-! Values as plain data, and readings of code over plain data: no heap in sight. -/
namespace FS
open PySem PySem.Spec PyProof.Rows L2

/-- plain data -/
inductive D where
  | non
  | bl (b : Bool)
  | int (i : Int)
  | str (x : Str)
  | tup (l : List D)
  | lst (l : List D)
  | scr (ns : List Int)
  | ty (n : String)
  | obj (a : Addr)
  | ins (C : Addr) (ns : List Str) (ds : List D)
  | exc (a : Addr) (od : Option Addr) (ns : List Str) (ds : List D)
  | dic (ks : List Key) (ds : List D)
  /-- an instance that is being made -/
  | slf (a C : Addr) (ns : List Str) (ds : List D)
  /-- a list that is lent, at its place -/
  | lsa (a : Addr) (ds : List D)
  /-- in an open tree: a part that is known -/
  | kn (d : D)

mutual
/-- v stands for d -/
def Is (K : PySem.W.Frag) (H : Hp) : D → V → Prop
  | .non, v => v = .non
  | .bl b, v => v = .bl b
  | .int i, v => v = .int i
  | .str x, v => v = .str x
  | .tup l, v => ∃ a vs, v = .ref a ∧ SqT K H a vs ∧ IsL K H l vs
  | .lst l, v => ∃ a vs, v = .ref a ∧ H a = some (.lst vs) ∧ IsL K H l vs
  | .scr ns, v => ∃ a, v = .ref a ∧ SqL K H a (ns.map V.int)
  | .ty n, v => v = .ty n
  | .obj a, v => v = .ref a
  | .ins C ns l, v => ∃ a dx vs, v = .ref a ∧ H a = some (.ins C dx (ns.zip vs)) ∧ IsL K H l vs
  | .exc a od ns l, v => v = .ref a ∧ ((ns = [] ∧ od = none) ∨ ∃ d vs, od = some d ∧ H d = some (.xd (ns.zip vs)) ∧ IsL K H l vs)
  | .dic ks l, v => ∃ a vs, v = .ref a ∧ H a = some (.dK (ks.zip vs)) ∧ IsL K H l vs
  | .slf a C ns l, v => v = .ref a ∧ ∃ dx vs, H a = some (.ins C dx (ns.zip vs)) ∧ IsL K H l vs
  | .lsa a l, v => v = .ref a ∧ ∃ vs, H a = some (.lst vs) ∧ IsL K H l vs
  | .kn d, v => Is K H d v
def IsL (K : PySem.W.Frag) (H : Hp) : List D → List V → Prop
  | [], vs => vs = []
  | d :: l, vs => ∃ v r, vs = v :: r ∧ Is K H d v ∧ IsL K H l r
end

theorem same_t {K : PySem.W.Frag} {H H' : Hp} {a : Addr} {xs : List V} (e : Same H H') (h : SqT K H a xs) : SqT K H' a xs := by
  rcases h with (h | ⟨o, h⟩) | h
  · exact .inl (.inl (e _ _ h))
  · exact .inl (.inr ⟨o, e _ _ h⟩)
  · exact .inr h
mutual
theorem Is.mono {K : PySem.W.Frag} {H H' : Hp} (e : Same H H') : ∀ (d : D) (v : V), Is K H d v → Is K H' d v
  | .non, _, h => h
  | .bl _, _, h => h
  | .int _, _, h => h
  | .str _, _, h => h
  | .tup l, v, ⟨a, vs, h1, h2, h3⟩ => ⟨a, vs, h1, same_t e h2, IsL.mono e l vs h3⟩
  | .lst l, v, ⟨a, vs, h1, h2, h3⟩ => ⟨a, vs, h1, e _ _ h2, IsL.mono e l vs h3⟩
  | .scr ns, v, ⟨a, h1, h2⟩ => ⟨a, h1, e.seq h2⟩
  | .ty _, _, h => h
  | .obj _, _, h => h
  | .ins C ns l, v, ⟨a, dx, vs, h1, h2, h3⟩ => ⟨a, dx, vs, h1, e _ _ h2, IsL.mono e l vs h3⟩
  | .exc a od ns l, v, ⟨h1, .inl h2⟩ => ⟨h1, .inl h2⟩
  | .exc a od ns l, v, ⟨h1, .inr ⟨d, vs, h2, h3, h4⟩⟩ => ⟨h1, .inr ⟨d, vs, h2, e _ _ h3, IsL.mono e l vs h4⟩⟩
  | .dic ks l, v, ⟨a, vs, h1, h2, h3⟩ => ⟨a, vs, h1, e _ _ h2, IsL.mono e l vs h3⟩
  | .slf a C ns l, v, ⟨h0, dx, vs, h2, h3⟩ => ⟨h0, dx, vs, e _ _ h2, IsL.mono e l vs h3⟩
  | .lsa a l, v, ⟨h0, vs, h2, h3⟩ => ⟨h0, vs, e _ _ h2, IsL.mono e l vs h3⟩
  | .kn d, v, h => Is.mono e d v (show Is K H d v from h)
theorem IsL.mono {K : PySem.W.Frag} {H H' : Hp} (e : Same H H') : ∀ (l : List D) (vs : List V), IsL K H l vs → IsL K H' l vs
  | [], _, h => h
  | d :: l, vs, ⟨v, r, h1, h2, h3⟩ => ⟨v, r, h1, Is.mono e d v h2, IsL.mono e l r h3⟩
end
theorem Is.up {K : PySem.W.Frag} {H H' : Hp} {d : D} {v : V} (h : Is K H d v) (e : Same H H') : Is K H' d v := Is.mono e d v h
theorem IsL.up {K : PySem.W.Frag} {H H' : Hp} {l : List D} {vs : List V} (h : IsL K H l vs) (e : Same H H') : IsL K H' l vs := IsL.mono e l vs h

section
variable {K : PySem.W.Frag} {H : Hp}
theorem IsL.len : ∀ {l : List D} {vs : List V}, IsL K H l vs → vs.length = l.length
  | [], _, h => by rw [show _ = [] from h] <;> rfl
  | _ :: l, _, ⟨v, r, e, _, h⟩ => by rw [e, List.length_cons, List.length_cons, IsL.len h]
theorem IsL.get : ∀ {l : List D} {vs : List V} {i : Nat} {d : D}, IsL K H l vs → l[i]? = some d → ∃ v, vs[i]? = some v ∧ Is K H d v
  | [], _, _, _, _, e => by simp at e
  | _ :: _, _, 0, _, ⟨v, r, e, h, _⟩, q => by
    rw [e]
    have q : _ = _ := Option.some.inj q
    exact ⟨v, rfl, q ▸ h⟩
  | _ :: l, _, i + 1, d, ⟨v, r, e, _, h⟩, q => by
    rw [e]
    obtain ⟨u, h1, h2⟩ := IsL.get (i := i) (d := d) h (by simpa using q)
    exact ⟨u, by simpa using h1, h2⟩
theorem IsL.got : ∀ {l : List D} {vs : List V} {i : Nat} {v : V}, IsL K H l vs → vs[i]? = some v → ∃ d, l[i]? = some d ∧ Is K H d v := fun {l vs i v} h e => by
  have hl := h.len
  have hi := (List.getElem?_eq_some_iff.mp e).1
  have hd : l[i]? = some (l[i]'(by omega)) := List.getElem?_eq_getElem (by omega)
  obtain ⟨u, h1, h2⟩ := h.get hd
  rw [e] at h1
  have q : v = u := Option.some.inj h1
  exact ⟨_, hd, q ▸ h2⟩
theorem IsL.app : ∀ {l l' : List D} {vs us : List V}, IsL K H l vs → IsL K H l' us → IsL K H (l ++ l') (vs ++ us)
  | [], _, _, _, h, h' => by rw [show _ = [] from h]; exact h'
  | d :: l, _, _, _, ⟨v, r, e, h1, h2⟩, h' => by rw [e]; exact ⟨v, r ++ _, rfl, h1, IsL.app h2 h'⟩
theorem IsL.one {d : D} {v : V} (h : Is K H d v) : IsL K H [d] [v] := ⟨v, [], rfl, h, rfl⟩
theorem IsL.cons {d : D} {v : V} {l : List D} {vs : List V} (h : Is K H d v) (h' : IsL K H l vs) : IsL K H (d :: l) (v :: vs) := ⟨v, vs, rfl, h, h'⟩
theorem IsL.set {d : D} {v : V} (h : Is K H d v) : ∀ {l : List D} {vs : List V} (i : Nat), IsL K H l vs → IsL K H (l.set i d) (vs.set i v)
  | [], _, _, e => by rw [show _ = [] from e]; exact (rfl : [] = [])
  | _ :: _, _, 0, ⟨u, r, e, _, h2⟩ => by rw [e]; exact ⟨v, r, rfl, h, h2⟩
  | _ :: _, _, i + 1, ⟨u, r, e, h1, h2⟩ => by rw [e]; exact ⟨u, r.set i v, rfl, h1, IsL.set h i h2⟩
theorem IsL.take : ∀ {l : List D} {vs : List V} (n : Nat), IsL K H l vs → IsL K H (l.take n) (vs.take n)
  | [], _, n, e => by rw [show _ = [] from e]; simp [IsL]
  | _ :: _, _, 0, _ => by simp [IsL]
  | _ :: _, _, n + 1, ⟨u, r, e, h1, h2⟩ => by rw [e]; exact ⟨u, r.take n, rfl, h1, IsL.take n h2⟩
theorem IsL.drop : ∀ {l : List D} {vs : List V} (n : Nat), IsL K H l vs → IsL K H (l.drop n) (vs.drop n)
  | [], _, n, e => by rw [show _ = [] from e]; simp [IsL]
  | _ :: _, _, 0, h => by simpa using h
  | _ :: _, _, n + 1, ⟨u, r, e, h1, h2⟩ => by rw [e]; simpa using IsL.drop n h2
theorem IsL.dropLast {l : List D} {vs : List V} (h : IsL K H l vs) : IsL K H l.dropLast vs.dropLast := by
  rw [List.dropLast_eq_take, List.dropLast_eq_take, h.len]
  exact h.take _
/-- data of plain ints, of plain things: the values are known -/
theorem isL_ints (ns : List Int) : IsL K H (ns.map D.int) (ns.map V.int) := by
  induction ns with
  | nil => exact (rfl : [] = [])
  | cons n r ih => exact ⟨_, _, rfl, rfl, ih⟩
theorem isL_ints_inv : ∀ {ns : List Int} {vs : List V}, IsL K H (ns.map D.int) vs → vs = ns.map V.int
  | [], _, h => h
  | n :: r, _, ⟨v, q, e, h1, h2⟩ => by rw [e, show v = V.int n from h1, isL_ints_inv h2] <;> rfl
end

/-! ### what is open: objects that somebody will still change -/
abbrev Op := List (Addr × HO)
/-- no tuple of scalars, nothing locked: what may be open -/
def NS : HO → Prop
  | .tup vs => ∃ a, V.ref a ∈ vs
  | .frz _ _ => False
  | _ => True
/-- H: what is known and stays; T: the heap as it stands; M: what is open, with what it holds -/
structure Opn (H T : Hp) (M : Op) : Prop where
  same : Same H T
  free : ∀ x ∈ M, H x.1 = none
  at_ : ∀ x ∈ M, T x.1 = some x.2
  nd : (M.map (·.1)).Nodup
  nt : ∀ x ∈ M, NS x.2
section
variable {H H' T T' : Hp} {M N : Op} {p : Addr} {o o' : HO}
theorem Opn.fresh (h : Opn H T M) (hp : T p = none) : H p = none := h.same.free hp
theorem Opn.fresh_ne (h : Opn H T M) (hp : T p = none) : ∀ x ∈ M, x.1 ≠ p := fun x hx e => by
  have := h.at_ x hx
  rw [e, hp] at this
  cases this
theorem same_new {H : Hp} {p : Addr} {o : HO} (h : H p = none) : Same H (upd H p o) := fun b x e => by
  rw [upd_ne (ne_of_none e h)]
  exact e
/-- a new object, known at once -/
theorem Opn.new (h : Opn H T M) (hp : T p = none) : Opn (upd H p o) (upd T p o) M where
  same := fun b x e => by
    by_cases hb : b = p
    · subst hb
      rw [upd_same] at e ⊢
      exact e
    · rw [upd_ne hb] at e ⊢
      exact h.same b x e
  free := fun x hx => by
    rw [upd_ne (h.fresh_ne hp x hx)]
    exact h.free x hx
  at_ := fun x hx => by
    rw [upd_ne (h.fresh_ne hp x hx)]
    exact h.at_ x hx
  nd := h.nd
  nt := h.nt
/-- a new object, open -/
theorem Opn.opened (h : Opn H T M) (hp : T p = none) (ho : NS o := by exact trivial) : Opn H (upd T p o) ((p, o) :: M) where
  same := h.same.trans (same_new hp)
  free := fun x hx => by
    rcases List.mem_cons.mp hx with rfl | hx
    · exact h.fresh hp
    · exact h.free x hx
  at_ := fun x hx => by
    rcases List.mem_cons.mp hx with rfl | hx
    · exact upd_same
    · rw [upd_ne (h.fresh_ne hp x hx)]
      exact h.at_ x hx
  nd := by
    rw [List.map_cons, List.nodup_cons]
    refine ⟨fun hm => ?_, h.nd⟩
    obtain ⟨x, hx, e⟩ := List.mem_map.mp hm
    exact h.fresh_ne hp x hx e
  nt := fun x hx => by
    rcases List.mem_cons.mp hx with rfl | hx
    · exact ho
    · exact h.nt x hx
theorem Opn.ne_head (h : Opn H T ((p, o) :: M)) : ∀ x ∈ M, x.1 ≠ p := fun x hx e => by
  have := (List.nodup_cons.mp h.nd).1
  exact this (List.mem_map.mpr ⟨x, hx, e⟩)
theorem Opn.tail (h : Opn H T ((p, o) :: M)) : Opn H T M where
  same := h.same
  free := fun x hx => h.free x (List.mem_cons_of_mem _ hx)
  at_ := fun x hx => h.at_ x (List.mem_cons_of_mem _ hx)
  nd := (List.nodup_cons.mp h.nd).2
  nt := fun x hx => h.nt x (List.mem_cons_of_mem _ hx)
/-- the first open object is done: it is known from now on -/
theorem Opn.close (h : Opn H T ((p, o) :: M)) : Same H (upd H p o) ∧ Opn (upd H p o) T M := by
  have hp : H p = none := h.free _ List.mem_cons_self
  refine ⟨same_new hp, ?_, ?_, ?_, h.tail.nd, h.tail.nt⟩
  · intro b x e
    by_cases hb : b = p
    · subst hb
      rw [upd_same] at e
      rw [← e]
      exact h.at_ _ List.mem_cons_self
    · rw [upd_ne hb] at e
      exact h.same b x e
  · intro x hx
    rw [upd_ne (h.ne_head x hx)]
    exact h.tail.free x hx
  · exact h.tail.at_
/-- the first open object is written -/
theorem Opn.write (h : Opn H T ((p, o) :: M)) (ho : NS o' := by exact trivial) : Opn H (upd T p o') ((p, o') :: M) where
  same := fun b x e => by
    rw [upd_ne (ne_of_none e (h.free _ List.mem_cons_self))]
    exact h.same b x e
  free := fun x hx => by
    rcases List.mem_cons.mp hx with rfl | hx
    · exact h.free (p, o) List.mem_cons_self
    · exact h.tail.free x hx
  at_ := fun x hx => by
    rcases List.mem_cons.mp hx with rfl | hx
    · exact upd_same
    · rw [upd_ne (h.ne_head x hx)]
      exact h.tail.at_ x hx
  nd := h.nd
  nt := fun x hx => by
    rcases List.mem_cons.mp hx with rfl | hx
    · exact ho
    · exact h.tail.nt x hx
theorem Opn.perm (h : Opn H T M) (e : List.Perm M N) : Opn H T N where
  same := h.same
  free := fun x hx => h.free x (e.mem_iff.mpr hx)
  at_ := fun x hx => h.at_ x (e.mem_iff.mpr hx)
  nd := (e.map (·.1)).nodup_iff.mp h.nd
  nt := fun x hx => h.nt x (e.mem_iff.mpr hx)
theorem Opn.sub (h : Opn H T M) (e : List.Sublist N M) : Opn H T N where
  same := h.same
  free := fun x hx => h.free x (e.subset hx)
  at_ := fun x hx => h.at_ x (e.subset hx)
  nd := h.nd.sublist (e.map (·.1))
  nt := fun x hx => h.nt x (e.subset hx)
end

/-! ### open trees: data whose objects are open, L, but for the known parts -/
mutual
def IsC (K : PySem.W.Frag) (H : Hp) : D → V → Op → Prop
  | .non, v, L => v = .non ∧ L = []
  | .bl b, v, L => v = .bl b ∧ L = []
  | .int i, v, L => v = .int i ∧ L = []
  | .str x, v, L => v = .str x ∧ L = []
  | .tup l, v, L => ∃ a vs Ls, v = .ref a ∧ L = (a, .tup vs) :: Ls ∧ IsCL K H l vs Ls
  | .lst l, v, L => ∃ a vs Ls, v = .ref a ∧ L = (a, .lst vs) :: Ls ∧ IsCL K H l vs Ls
  | .scr _, _, _ => False
  | .ty n, v, L => v = .ty n ∧ L = []
  | .obj a, v, L => v = .ref a ∧ L = []
  | .exc _ _ _ _, _, _ => False
  | .ins C ns l, v, L => ∃ a dx vs Ls, v = .ref a ∧ L = (a, .ins C dx (ns.zip vs)) :: (dx, .own a) :: Ls ∧ IsCL K H l vs Ls
  | .dic ks l, v, L => ∃ a vs Ls, v = .ref a ∧ L = (a, .dK (ks.zip vs)) :: Ls ∧ IsCL K H l vs Ls
  | .slf a C ns l, v, L => v = .ref a ∧ ∃ dx vs Ls, L = (a, .ins C dx (ns.zip vs)) :: (dx, .own a) :: Ls ∧ IsCL K H l vs Ls
  | .lsa a l, v, L => v = .ref a ∧ ∃ vs Ls, L = (a, .lst vs) :: Ls ∧ IsCL K H l vs Ls
  | .kn d, v, L => Is K H d v ∧ L = []
def IsCL (K : PySem.W.Frag) (H : Hp) : List D → List V → Op → Prop
  | [], vs, L => vs = [] ∧ L = []
  | d :: l, vs, L => ∃ v r L1 L2, vs = v :: r ∧ L = L1 ++ L2 ∧ IsC K H d v L1 ∧ IsCL K H l r L2
end
mutual
theorem IsC.mono {K : PySem.W.Frag} {H H' : Hp} (e : Same H H') : ∀ (d : D) (v : V) (L : Op), IsC K H d v L → IsC K H' d v L
  | .non, _, _, h => h
  | .bl _, _, _, h => h
  | .int _, _, _, h => h
  | .str _, _, _, h => h
  | .tup l, _, _, ⟨a, vs, Ls, h1, h2, h⟩ => ⟨a, vs, Ls, h1, h2, IsCL.mono e l vs Ls h⟩
  | .lst l, _, _, ⟨a, vs, Ls, h1, h2, h⟩ => ⟨a, vs, Ls, h1, h2, IsCL.mono e l vs Ls h⟩
  | .scr _, _, _, h => h
  | .ty _, _, _, h => h
  | .obj _, _, _, h => h
  | .exc _ _ _ _, _, _, h => h
  | .ins C ns l, _, _, ⟨a, dx, vs, Ls, h1, h2, h⟩ => ⟨a, dx, vs, Ls, h1, h2, IsCL.mono e l vs Ls h⟩
  | .dic ks l, _, _, ⟨a, vs, Ls, h1, h2, h⟩ => ⟨a, vs, Ls, h1, h2, IsCL.mono e l vs Ls h⟩
  | .slf a C ns l, _, _, ⟨h0, dx, vs, Ls, h2, h⟩ => ⟨h0, dx, vs, Ls, h2, IsCL.mono e l vs Ls h⟩
  | .lsa a l, _, _, ⟨h0, vs, Ls, h2, h⟩ => ⟨h0, vs, Ls, h2, IsCL.mono e l vs Ls h⟩
  | .kn d, _, _, ⟨h1, h2⟩ => ⟨h1.up e, h2⟩
theorem IsCL.mono {K : PySem.W.Frag} {H H' : Hp} (e : Same H H') : ∀ (l : List D) (vs : List V) (L : Op), IsCL K H l vs L → IsCL K H' l vs L
  | [], _, _, h => h
  | d :: l, _, _, ⟨v, r, L1, L2, h1, h2, h3, h4⟩ => ⟨v, r, L1, L2, h1, h2, IsC.mono e d v L1 h3, IsCL.mono e l r L2 h4⟩
end
theorem IsC.up {K : PySem.W.Frag} {H H' : Hp} {d : D} {v : V} {L : Op} (h : IsC K H d v L) (e : Same H H') : IsC K H' d v L := IsC.mono e d v L h
theorem IsCL.up {K : PySem.W.Frag} {H H' : Hp} {l : List D} {vs : List V} {L : Op} (h : IsCL K H l vs L) (e : Same H H') : IsCL K H' l vs L := IsCL.mono e l vs L h
mutual
theorem IsC.is {K : PySem.W.Frag} {H : Hp} : ∀ (d : D) (v : V) (L : Op), IsC K H d v L → (∀ x ∈ L, H x.1 = some x.2) → Is K H d v
  | .non, _, _, h, _ => h.1
  | .bl _, _, _, h, _ => h.1
  | .int _, _, _, h, _ => h.1
  | .str _, _, _, h, _ => h.1
  | .tup l, _, _, ⟨a, vs, Ls, e, eL, h⟩, q => ⟨a, vs, e, .inl (.inl (q (a, .tup vs) (by rw [eL]; exact List.mem_cons_self))), IsCL.is l vs Ls h fun x hx => q x (by rw [eL]; exact List.mem_cons_of_mem _ hx)⟩
  | .lst l, _, _, ⟨a, vs, Ls, e, eL, h⟩, q => ⟨a, vs, e, q (a, .lst vs) (by rw [eL]; exact List.mem_cons_self), IsCL.is l vs Ls h fun x hx => q x (by rw [eL]; exact List.mem_cons_of_mem _ hx)⟩
  | .scr _, _, _, h, _ => h.elim
  | .ty _, _, _, h, _ => h.1
  | .obj _, _, _, h, _ => h.1
  | .exc _ _ _ _, _, _, h, _ => h.elim
  | .ins C ns l, _, _, ⟨a, dx, vs, Ls, e, eL, h⟩, q => ⟨a, dx, vs, e, q (a, .ins C dx (ns.zip vs)) (by rw [eL]; exact List.mem_cons_self), IsCL.is l vs Ls h fun x hx => q x (by rw [eL]; exact List.mem_cons_of_mem _ (List.mem_cons_of_mem _ hx))⟩
  | .dic ks l, _, _, ⟨a, vs, Ls, e, eL, h⟩, q => ⟨a, vs, e, q (a, .dK (ks.zip vs)) (by rw [eL]; exact List.mem_cons_self), IsCL.is l vs Ls h fun x hx => q x (by rw [eL]; exact List.mem_cons_of_mem _ hx)⟩
  | .slf a C ns l, _, _, ⟨e, dx, vs, Ls, eL, h⟩, q => ⟨e, dx, vs, q (a, .ins C dx (ns.zip vs)) (by rw [eL]; exact List.mem_cons_self), IsCL.is l vs Ls h fun x hx => q x (by rw [eL]; exact List.mem_cons_of_mem _ (List.mem_cons_of_mem _ hx))⟩
  | .lsa a l, _, _, ⟨e, vs, Ls, eL, h⟩, q => ⟨e, vs, q (a, .lst vs) (by rw [eL]; exact List.mem_cons_self), IsCL.is l vs Ls h fun x hx => q x (by rw [eL]; exact List.mem_cons_of_mem _ hx)⟩
  | .kn _, _, _, h, _ => h.1
theorem IsCL.is {K : PySem.W.Frag} {H : Hp} : ∀ (l : List D) (vs : List V) (L : Op), IsCL K H l vs L → (∀ x ∈ L, H x.1 = some x.2) → IsL K H l vs
  | [], _, _, h, _ => h.1
  | d :: l, _, _, ⟨v, r, L1, L2, e, eL, h1, h2⟩, q => ⟨v, r, e, IsC.is d v L1 h1 fun x hx => q x (by rw [eL]; exact List.mem_append_left _ hx), IsCL.is l r L2 h2 fun x hx => q x (by rw [eL]; exact List.mem_append_right _ hx)⟩
end
/-! the marks of known parts dropped -/
mutual
def D.er : D → D
  | .tup l => .tup (D.erL l)
  | .lst l => .lst (D.erL l)
  | .ins C ns l => .ins C ns (D.erL l)
  | .exc a od ns l => .exc a od ns (D.erL l)
  | .dic ks l => .dic ks (D.erL l)
  | .slf _ C ns l => .ins C ns (D.erL l)
  | .lsa _ l => .lst (D.erL l)
  | .kn d => d
  | .non => .non
  | .bl b => .bl b
  | .int i => .int i
  | .str x => .str x
  | .scr ns => .scr ns
  | .ty n => .ty n
  | .obj a => .obj a
def D.erL : List D → List D
  | [] => []
  | d :: l => d.er :: D.erL l
end
mutual
theorem Is.er {K : PySem.W.Frag} {H : Hp} : ∀ (d : D) (v : V), Is K H d v → Is K H d.er v
  | .tup l, _, ⟨a, vs, h1, h2, h3⟩ => ⟨a, vs, h1, h2, IsL.er l vs h3⟩
  | .lst l, _, ⟨a, vs, h1, h2, h3⟩ => ⟨a, vs, h1, h2, IsL.er l vs h3⟩
  | .ins C ns l, _, ⟨a, dx, vs, h1, h2, h3⟩ => ⟨a, dx, vs, h1, h2, IsL.er l vs h3⟩
  | .exc a od ns l, _, ⟨h1, .inl h2⟩ => ⟨h1, .inl h2⟩
  | .exc a od ns l, _, ⟨h1, .inr ⟨d, vs, h2, h3, h4⟩⟩ => ⟨h1, .inr ⟨d, vs, h2, h3, IsL.er l vs h4⟩⟩
  | .dic ks l, _, ⟨a, vs, h1, h2, h3⟩ => ⟨a, vs, h1, h2, IsL.er l vs h3⟩
  | .slf a C ns l, _, ⟨h0, dx, vs, h2, h3⟩ => ⟨a, dx, vs, h0, h2, IsL.er l vs h3⟩
  | .lsa a l, _, ⟨h0, vs, h2, h3⟩ => ⟨a, vs, h0, h2, IsL.er l vs h3⟩
  | .kn d, v, h => h
  | .non, _, h => h
  | .bl _, _, h => h
  | .int _, _, h => h
  | .str _, _, h => h
  | .scr _, _, h => h
  | .ty _, _, h => h
  | .obj _, _, h => h
theorem IsL.er {K : PySem.W.Frag} {H : Hp} : ∀ (l : List D) (vs : List V), IsL K H l vs → IsL K H (D.erL l) vs
  | [], _, h => h
  | d :: l, _, ⟨v, r, e, h1, h2⟩ => ⟨v, r, e, Is.er d v h1, IsL.er l r h2⟩
end
section
variable {K : PySem.W.Frag} {H : Hp}
theorem IsCL.len : ∀ {l : List D} {vs : List V} {L : Op}, IsCL K H l vs L → vs.length = l.length
  | [], _, _, h => by rw [h.1] <;> rfl
  | _ :: _, _, _, ⟨v, r, L1, L2, e, eL, h1, h2⟩ => by rw [e, List.length_cons, List.length_cons, IsCL.len h2]
theorem IsCL.app : ∀ {l l' : List D} {vs us : List V} {L L' : Op}, IsCL K H l vs L → IsCL K H l' us L' → IsCL K H (l ++ l') (vs ++ us) (L ++ L')
  | [], _, _, _, _, _, h, h' => by rw [h.1, h.2]; exact h'
  | d :: l, _, _, _, _, _, ⟨v, r, L1, L2, e, eL, h1, h2⟩, h' => by
    rw [e, eL, List.append_assoc]
    exact ⟨v, r ++ _, L1, L2 ++ _, rfl, rfl, h1, IsCL.app h2 h'⟩
theorem IsCL.one {d : D} {v : V} {L : Op} (h : IsC K H d v L) : IsCL K H [d] [v] L := ⟨v, [], L, [], rfl, by simp, h, rfl, rfl⟩
theorem IsCL.cons {d : D} {v : V} {l : List D} {vs : List V} {L L' : Op} (h : IsC K H d v L) (h' : IsCL K H l vs L') : IsCL K H (d :: l) (v :: vs) (L ++ L') := ⟨v, vs, L, L', rfl, rfl, h, h'⟩
/-- one part of a row of trees, and how it may be changed -/
theorem IsCL.part : ∀ {l : List D} {vs : List V} {L : Op} {i : Nat} {d : D}, IsCL K H l vs L → l[i]? = some d → ∃ u Ls L1 L2, vs[i]? = some u ∧ IsC K H d u Ls ∧ L = L1 ++ (Ls ++ L2) ∧
    ∀ H' d' u' Ls', Same H H' → IsC K H' d' u' Ls' → IsCL K H' (l.set i d') (vs.set i u') (L1 ++ (Ls' ++ L2))
  | [], _, _, _, _, _, e => by simp at e
  | x :: l, _, _, 0, d, ⟨v, r, L1, L2, e, eL, h1, h2⟩, q => by
    have q : x = d := Option.some.inj q
    subst q
    rw [e, eL]
    exact ⟨v, L1, [], L2, rfl, h1, rfl, fun H' d' u' Ls' s h' => ⟨u', r, Ls', L2, rfl, rfl, h', h2.up s⟩⟩
  | x :: l, _, _, i + 1, d, ⟨v, r, L1, L2, e, eL, h1, h2⟩, q => by
    obtain ⟨u, Ls, M1, M2, g1, g2, g3, g4⟩ := IsCL.part (i := i) (d := d) h2 (by simpa using q)
    rw [e, eL]
    refine ⟨u, Ls, L1 ++ M1, M2, by simpa using g1, g2, by rw [g3, List.append_assoc], fun H' d' u' Ls' s h' => ⟨v, r.set i u', L1, M1 ++ (Ls' ++ M2), rfl, by rw [List.append_assoc], h1.up s, g4 H' d' u' Ls' s h'⟩⟩
/-- the part of d at a path -/
def D.at : List Nat → D → Option D
  | [], d => some d
  | i :: π, .tup l => (l[i]?).bind (D.at π)
  | i :: π, .lst l => (l[i]?).bind (D.at π)
  | i :: π, .lsa _ l => (l[i]?).bind (D.at π)
  | i :: π, .ins _ ns l => if i < ns.length then (l[i]?).bind (D.at π) else none
  | i :: π, .slf _ _ ns l => if i < ns.length then (l[i]?).bind (D.at π) else none
  | i :: π, .dic ks l => if i < ks.length then (l[i]?).bind (D.at π) else none
  | _ :: _, _ => none
def D.put : List Nat → D → D → D
  | [], _, s => s
  | i :: π, .tup l, s => .tup (l.modify i fun d => D.put π d s)
  | i :: π, .lst l, s => .lst (l.modify i fun d => D.put π d s)
  | i :: π, .lsa a l, s => .lsa a (l.modify i fun d => D.put π d s)
  | i :: π, .ins C ns l, s => .ins C ns (l.modify i fun d => D.put π d s)
  | i :: π, .slf a C ns l, s => .slf a C ns (l.modify i fun d => D.put π d s)
  | i :: π, .dic ks l, s => .dic ks (l.modify i fun d => D.put π d s)
  | _ :: _, d, _ => d
theorem modify_set {α : Type} {l : List α} {i : Nat} {d : α} (f : α → α) (h : l[i]? = some d) : l.modify i f = l.set i (f d) := by
  refine List.ext_getElem? fun j => ?_
  rw [List.getElem?_modify, List.getElem?_set]
  by_cases e : i = j
  · subst e
    have hi := (List.getElem?_eq_some_iff.mp h).1
    rw [h]
    simp [hi]
  · simp [e]
theorem set_same {α : Type} {l : List α} {i : Nat} {d : α} (h : l[i]? = some d) : l.set i d = l := by
  refine List.ext_getElem? fun j => ?_
  rw [List.getElem?_set]
  by_cases e : i = j
  · subst e
    have hi := (List.getElem?_eq_some_iff.mp h).1
    rw [if_pos rfl, if_pos hi, h]
  · rw [if_neg e]
/-- u stands at the path below v -/
def Nav (T : Hp) : List Nat → V → V → Prop
  | [], v, u => v = u
  | i :: π, v, u => ∃ a w, v = .ref a ∧ ((∃ vs, (T a = some (.lst vs) ∨ T a = some (.tup vs)) ∧ vs[i]? = some w) ∨ (∃ C dx fs n, T a = some (.ins C dx fs) ∧ fs[i]? = some (n, w)) ∨ (∃ kvs k, T a = some (.dK kvs) ∧ kvs[i]? = some (k, w))) ∧ Nav T π w u
theorem Nav.up {T T' : Hp} (s : Same T T') : ∀ {π : List Nat} {v u : V}, Nav T π v u → Nav T' π v u
  | [], _, _, h => h
  | i :: π, _, _, ⟨a, w, e, h, n⟩ => by
    refine ⟨a, w, e, ?_, Nav.up s n⟩
    rcases h with ⟨vs, h, q⟩ | ⟨C, dx, fs, nm, h, q⟩ | ⟨kvs, k, h, q⟩
    · exact .inl ⟨vs, h.imp (s _ _) (s _ _), q⟩
    · exact .inr (.inl ⟨C, dx, fs, nm, s _ _ h, q⟩)
    · exact .inr (.inr ⟨kvs, k, s _ _ h, q⟩)
theorem Nav.eq {T : Hp} : ∀ {π : List Nat} {v u u' : V}, Nav T π v u → Nav T π v u' → u = u'
  | [], _, _, _, h, h' => h.symm.trans h'
  | i :: π, _, _, _, ⟨a, w, e, h, n⟩, ⟨a', w', e', h', n'⟩ => by
    have ea : a = a' := by rw [e] at e'; exact V.ref.inj e'
    subst ea
    have ew : w = w' := by
      rcases h with ⟨vs, h, q⟩ | ⟨C, dx, fs, nm, h, q⟩ | ⟨kvs, k, h, q⟩
      · rcases h' with ⟨vs', h', q'⟩ | ⟨C', dx', fs', nm', h', q'⟩ | ⟨kvs', k', h', q'⟩
        · have : vs = vs' := by
            rcases h with h | h <;> rcases h' with h' | h' <;> (rw [h] at h'; cases h' <;> rfl)
          rw [this, q'] at q
          exact (Option.some.inj q).symm
        · rcases h with h | h <;> (rw [h] at h'; cases h')
        · rcases h with h | h <;> (rw [h] at h'; cases h')
      · rcases h' with ⟨vs', h', q'⟩ | ⟨C', dx', fs', nm', h', q'⟩ | ⟨kvs', k', h', q'⟩
        · rcases h' with h' | h' <;> (rw [h] at h'; cases h')
        · rw [h] at h'
          cases h'
          rw [q] at q'
          exact (Prod.mk.inj (Option.some.inj q')).2
        · rw [h] at h'; cases h'
      · rcases h' with ⟨vs', h', q'⟩ | ⟨C', dx', fs', nm', h', q'⟩ | ⟨kvs', k', h', q'⟩
        · rcases h' with h' | h' <;> (rw [h] at h'; cases h')
        · rw [h] at h'; cases h'
        · rw [h] at h'
          cases h'
          rw [q] at q'
          exact (Prod.mk.inj (Option.some.inj q')).2
    subst ew
    exact Nav.eq n n'
theorem zip_get {α β : Type} {l : List α} {r : List β} {i : Nat} {w : β} (hi : i < l.length) (h : r[i]? = some w) : ∃ n, (l.zip r)[i]? = some (n, w) := by
  refine ⟨l[i], ?_⟩
  rw [List.getElem?_zip_eq_some]
  exact ⟨List.getElem?_eq_getElem hi, h⟩
/-- the part at a path of an open tree: where it stands, and how it may be changed in place -/
theorem IsC.focus : ∀ {π : List Nat} {d s : D} {v : V} {L : Op}, IsC K H d v L → D.at π d = some s → ∃ u Ls L0, IsC K H s u Ls ∧ List.Perm L (Ls ++ L0) ∧ (∀ T : Hp, (∀ x ∈ L, T x.1 = some x.2) → Nav T π v u) ∧
    ∀ H' s' Ls', Same H H' → IsC K H' s' u Ls' → ∃ L', IsC K H' (D.put π d s') v L' ∧ List.Perm L' (Ls' ++ L0)
  | [], d, s, v, L, h, e => by
    have e : d = s := Option.some.inj e
    subst e
    exact ⟨v, L, [], h, by rw [List.append_nil], fun T _ => rfl, fun H' s' Ls' _ h' => ⟨Ls', h', by rw [List.append_nil]⟩⟩
  | i :: π, d, s, v, L, h, e => by
    cases d with
    | tup l =>
      obtain ⟨a, vs, Lt, rfl, rfl, hl⟩ := h
      obtain ⟨x, hx, e⟩ := Option.bind_eq_some_iff.mp (show (l[i]?).bind (D.at π) = some s from e)
      obtain ⟨w, Lw, L1, L2, g1, g2, g3, g4⟩ := hl.part hx
      obtain ⟨u, Ls, L0, k1, k2, k3, k4⟩ := IsC.focus g2 e
      subst g3
      refine ⟨u, Ls, (a, .tup vs) :: (L0 ++ (L1 ++ L2)), k1, ?_, fun T hT => ⟨a, w, rfl, .inl ⟨vs, .inr (hT (a, .tup vs) List.mem_cons_self), g1⟩, k3 T fun x hx => hT x (List.mem_cons_of_mem _ (List.mem_append_right _ (List.mem_append_left _ hx)))⟩, fun H' s' Ls' sm h' => ?_⟩
      · refine (List.Perm.cons _ ?_).trans List.perm_middle.symm
        refine List.Perm.trans ?_ (show List.Perm ((Ls ++ L0) ++ (L1 ++ L2)) (Ls ++ (L0 ++ (L1 ++ L2))) by rw [List.append_assoc])
        refine List.Perm.trans ?_ (k2.append_right (L1 ++ L2))
        refine List.Perm.trans ?_ (show List.Perm ((Lw ++ L1) ++ L2) (Lw ++ (L1 ++ L2)) by rw [List.append_assoc])
        rw [← List.append_assoc]
        exact List.perm_append_comm.append_right _
      · obtain ⟨L', q1, q2⟩ := k4 H' s' Ls' sm h'
        have q3 := g4 H' _ _ _ sm q1
        rw [set_same g1] at q3
        refine ⟨(a, .tup vs) :: (L1 ++ (L' ++ L2)), ⟨a, vs, _, rfl, rfl, by rw [modify_set _ hx]; exact q3⟩, ?_⟩
        refine (List.Perm.cons _ ?_).trans List.perm_middle.symm
        refine List.Perm.trans ?_ (show List.Perm ((Ls' ++ L0) ++ (L1 ++ L2)) (Ls' ++ (L0 ++ (L1 ++ L2))) by rw [List.append_assoc])
        refine List.Perm.trans ?_ (q2.append_right (L1 ++ L2))
        refine List.Perm.trans ?_ (show List.Perm ((L' ++ L1) ++ L2) (L' ++ (L1 ++ L2)) by rw [List.append_assoc])
        rw [← List.append_assoc]
        exact List.perm_append_comm.append_right _
    | lst l =>
      obtain ⟨a, vs, Lt, rfl, rfl, hl⟩ := h
      obtain ⟨x, hx, e⟩ := Option.bind_eq_some_iff.mp (show (l[i]?).bind (D.at π) = some s from e)
      obtain ⟨w, Lw, L1, L2, g1, g2, g3, g4⟩ := hl.part hx
      obtain ⟨u, Ls, L0, k1, k2, k3, k4⟩ := IsC.focus g2 e
      subst g3
      refine ⟨u, Ls, (a, .lst vs) :: (L0 ++ (L1 ++ L2)), k1, ?_, fun T hT => ⟨a, w, rfl, .inl ⟨vs, .inl (hT (a, .lst vs) List.mem_cons_self), g1⟩, k3 T fun x hx => hT x (List.mem_cons_of_mem _ (List.mem_append_right _ (List.mem_append_left _ hx)))⟩, fun H' s' Ls' sm h' => ?_⟩
      · refine (List.Perm.cons _ ?_).trans List.perm_middle.symm
        refine List.Perm.trans ?_ (show List.Perm ((Ls ++ L0) ++ (L1 ++ L2)) (Ls ++ (L0 ++ (L1 ++ L2))) by rw [List.append_assoc])
        refine List.Perm.trans ?_ (k2.append_right (L1 ++ L2))
        refine List.Perm.trans ?_ (show List.Perm ((Lw ++ L1) ++ L2) (Lw ++ (L1 ++ L2)) by rw [List.append_assoc])
        rw [← List.append_assoc]
        exact List.perm_append_comm.append_right _
      · obtain ⟨L', q1, q2⟩ := k4 H' s' Ls' sm h'
        have q3 := g4 H' _ _ _ sm q1
        rw [set_same g1] at q3
        refine ⟨(a, .lst vs) :: (L1 ++ (L' ++ L2)), ⟨a, vs, _, rfl, rfl, by rw [modify_set _ hx]; exact q3⟩, ?_⟩
        refine (List.Perm.cons _ ?_).trans List.perm_middle.symm
        refine List.Perm.trans ?_ (show List.Perm ((Ls' ++ L0) ++ (L1 ++ L2)) (Ls' ++ (L0 ++ (L1 ++ L2))) by rw [List.append_assoc])
        refine List.Perm.trans ?_ (q2.append_right (L1 ++ L2))
        refine List.Perm.trans ?_ (show List.Perm ((L' ++ L1) ++ L2) (L' ++ (L1 ++ L2)) by rw [List.append_assoc])
        rw [← List.append_assoc]
        exact List.perm_append_comm.append_right _
    | lsa a l =>
      obtain ⟨rfl, vs, Lt, rfl, hl⟩ := h
      obtain ⟨x, hx, e⟩ := Option.bind_eq_some_iff.mp (show (l[i]?).bind (D.at π) = some s from e)
      obtain ⟨w, Lw, L1, L2, g1, g2, g3, g4⟩ := hl.part hx
      obtain ⟨u, Ls, L0, k1, k2, k3, k4⟩ := IsC.focus g2 e
      subst g3
      refine ⟨u, Ls, (a, .lst vs) :: (L0 ++ (L1 ++ L2)), k1, ?_, fun T hT => ⟨a, w, rfl, .inl ⟨vs, .inl (hT (a, .lst vs) List.mem_cons_self), g1⟩, k3 T fun x hx => hT x (List.mem_cons_of_mem _ (List.mem_append_right _ (List.mem_append_left _ hx)))⟩, fun H' s' Ls' sm h' => ?_⟩
      · refine (List.Perm.cons _ ?_).trans List.perm_middle.symm
        refine List.Perm.trans ?_ (show List.Perm ((Ls ++ L0) ++ (L1 ++ L2)) (Ls ++ (L0 ++ (L1 ++ L2))) by rw [List.append_assoc])
        refine List.Perm.trans ?_ (k2.append_right (L1 ++ L2))
        refine List.Perm.trans ?_ (show List.Perm ((Lw ++ L1) ++ L2) (Lw ++ (L1 ++ L2)) by rw [List.append_assoc])
        rw [← List.append_assoc]
        exact List.perm_append_comm.append_right _
      · obtain ⟨L', q1, q2⟩ := k4 H' s' Ls' sm h'
        have q3 := g4 H' _ _ _ sm q1
        rw [set_same g1] at q3
        refine ⟨(a, .lst vs) :: (L1 ++ (L' ++ L2)), ⟨rfl, vs, _, rfl, by rw [modify_set _ hx]; exact q3⟩, ?_⟩
        refine (List.Perm.cons _ ?_).trans List.perm_middle.symm
        refine List.Perm.trans ?_ (show List.Perm ((Ls' ++ L0) ++ (L1 ++ L2)) (Ls' ++ (L0 ++ (L1 ++ L2))) by rw [List.append_assoc])
        refine List.Perm.trans ?_ (q2.append_right (L1 ++ L2))
        refine List.Perm.trans ?_ (show List.Perm ((L' ++ L1) ++ L2) (L' ++ (L1 ++ L2)) by rw [List.append_assoc])
        rw [← List.append_assoc]
        exact List.perm_append_comm.append_right _
    | ins C ns l =>
      obtain ⟨a, dx, vs, Lt, rfl, rfl, hl⟩ := h
      have e : (if i < ns.length then (l[i]?).bind (D.at π) else none) = some s := e
      by_cases hi : i < ns.length
      · rw [if_pos hi] at e
        obtain ⟨x, hx, e⟩ := Option.bind_eq_some_iff.mp e
        obtain ⟨w, Lw, L1, L2, g1, g2, g3, g4⟩ := hl.part hx
        obtain ⟨u, Ls, L0, k1, k2, k3, k4⟩ := IsC.focus g2 e
        obtain ⟨nm, hz⟩ := zip_get hi g1
        subst g3
        refine ⟨u, Ls, (a, .ins C dx (ns.zip vs)) :: (dx, .own a) :: (L0 ++ (L1 ++ L2)), k1, ?_, fun T hT => ⟨a, w, rfl, .inr (.inl ⟨C, dx, _, nm, hT (a, .ins C dx (ns.zip vs)) List.mem_cons_self, hz⟩), k3 T fun x hx => hT x (List.mem_cons_of_mem _ (List.mem_cons_of_mem _ (List.mem_append_right _ (List.mem_append_left _ hx))))⟩, fun H' s' Ls' sm h' => ?_⟩
        · refine (List.Perm.cons _ ?_).trans List.perm_middle.symm
          refine (List.Perm.cons _ ?_).trans List.perm_middle.symm
          refine List.Perm.trans ?_ (show List.Perm ((Ls ++ L0) ++ (L1 ++ L2)) (Ls ++ (L0 ++ (L1 ++ L2))) by rw [List.append_assoc])
          refine List.Perm.trans ?_ (k2.append_right (L1 ++ L2))
          refine List.Perm.trans ?_ (show List.Perm ((Lw ++ L1) ++ L2) (Lw ++ (L1 ++ L2)) by rw [List.append_assoc])
          rw [← List.append_assoc]
          exact List.perm_append_comm.append_right _
        · obtain ⟨L', q1, q2⟩ := k4 H' s' Ls' sm h'
          have q3 := g4 H' _ _ _ sm q1
          rw [set_same g1] at q3
          refine ⟨(a, .ins C dx (ns.zip vs)) :: (dx, .own a) :: (L1 ++ (L' ++ L2)), ⟨a, dx, vs, _, rfl, rfl, by rw [modify_set _ hx]; exact q3⟩, ?_⟩
          refine (List.Perm.cons _ ?_).trans List.perm_middle.symm
          refine (List.Perm.cons _ ?_).trans List.perm_middle.symm
          refine List.Perm.trans ?_ (show List.Perm ((Ls' ++ L0) ++ (L1 ++ L2)) (Ls' ++ (L0 ++ (L1 ++ L2))) by rw [List.append_assoc])
          refine List.Perm.trans ?_ (q2.append_right (L1 ++ L2))
          refine List.Perm.trans ?_ (show List.Perm ((L' ++ L1) ++ L2) (L' ++ (L1 ++ L2)) by rw [List.append_assoc])
          rw [← List.append_assoc]
          exact List.perm_append_comm.append_right _
      · rw [if_neg hi] at e
        cases e
    | slf a C ns l =>
      obtain ⟨rfl, dx, vs, Lt, rfl, hl⟩ := h
      have e : (if i < ns.length then (l[i]?).bind (D.at π) else none) = some s := e
      by_cases hi : i < ns.length
      · rw [if_pos hi] at e
        obtain ⟨x, hx, e⟩ := Option.bind_eq_some_iff.mp e
        obtain ⟨w, Lw, L1, L2, g1, g2, g3, g4⟩ := hl.part hx
        obtain ⟨u, Ls, L0, k1, k2, k3, k4⟩ := IsC.focus g2 e
        obtain ⟨nm, hz⟩ := zip_get hi g1
        subst g3
        refine ⟨u, Ls, (a, .ins C dx (ns.zip vs)) :: (dx, .own a) :: (L0 ++ (L1 ++ L2)), k1, ?_, fun T hT => ⟨a, w, rfl, .inr (.inl ⟨C, dx, _, nm, hT (a, .ins C dx (ns.zip vs)) List.mem_cons_self, hz⟩), k3 T fun x hx => hT x (List.mem_cons_of_mem _ (List.mem_cons_of_mem _ (List.mem_append_right _ (List.mem_append_left _ hx))))⟩, fun H' s' Ls' sm h' => ?_⟩
        · refine (List.Perm.cons _ ?_).trans List.perm_middle.symm
          refine (List.Perm.cons _ ?_).trans List.perm_middle.symm
          refine List.Perm.trans ?_ (show List.Perm ((Ls ++ L0) ++ (L1 ++ L2)) (Ls ++ (L0 ++ (L1 ++ L2))) by rw [List.append_assoc])
          refine List.Perm.trans ?_ (k2.append_right (L1 ++ L2))
          refine List.Perm.trans ?_ (show List.Perm ((Lw ++ L1) ++ L2) (Lw ++ (L1 ++ L2)) by rw [List.append_assoc])
          rw [← List.append_assoc]
          exact List.perm_append_comm.append_right _
        · obtain ⟨L', q1, q2⟩ := k4 H' s' Ls' sm h'
          have q3 := g4 H' _ _ _ sm q1
          rw [set_same g1] at q3
          refine ⟨(a, .ins C dx (ns.zip vs)) :: (dx, .own a) :: (L1 ++ (L' ++ L2)), ⟨rfl, dx, vs, _, rfl, by rw [modify_set _ hx]; exact q3⟩, ?_⟩
          refine (List.Perm.cons _ ?_).trans List.perm_middle.symm
          refine (List.Perm.cons _ ?_).trans List.perm_middle.symm
          refine List.Perm.trans ?_ (show List.Perm ((Ls' ++ L0) ++ (L1 ++ L2)) (Ls' ++ (L0 ++ (L1 ++ L2))) by rw [List.append_assoc])
          refine List.Perm.trans ?_ (q2.append_right (L1 ++ L2))
          refine List.Perm.trans ?_ (show List.Perm ((L' ++ L1) ++ L2) (L' ++ (L1 ++ L2)) by rw [List.append_assoc])
          rw [← List.append_assoc]
          exact List.perm_append_comm.append_right _
      · rw [if_neg hi] at e
        cases e
    | dic ks l =>
      obtain ⟨a, vs, Lt, rfl, rfl, hl⟩ := h
      have e : (if i < ks.length then (l[i]?).bind (D.at π) else none) = some s := e
      by_cases hi : i < ks.length
      · rw [if_pos hi] at e
        obtain ⟨x, hx, e⟩ := Option.bind_eq_some_iff.mp e
        obtain ⟨w, Lw, L1, L2, g1, g2, g3, g4⟩ := hl.part hx
        obtain ⟨u, Ls, L0, k1, k2, k3, k4⟩ := IsC.focus g2 e
        obtain ⟨nm, hz⟩ := zip_get hi g1
        subst g3
        refine ⟨u, Ls, (a, .dK (ks.zip vs)) :: (L0 ++ (L1 ++ L2)), k1, ?_, fun T hT => ⟨a, w, rfl, .inr (.inr ⟨_, nm, hT (a, .dK (ks.zip vs)) List.mem_cons_self, hz⟩), k3 T fun x hx => hT x (List.mem_cons_of_mem _ (List.mem_append_right _ (List.mem_append_left _ hx)))⟩, fun H' s' Ls' sm h' => ?_⟩
        · refine (List.Perm.cons _ ?_).trans List.perm_middle.symm
          refine List.Perm.trans ?_ (show List.Perm ((Ls ++ L0) ++ (L1 ++ L2)) (Ls ++ (L0 ++ (L1 ++ L2))) by rw [List.append_assoc])
          refine List.Perm.trans ?_ (k2.append_right (L1 ++ L2))
          refine List.Perm.trans ?_ (show List.Perm ((Lw ++ L1) ++ L2) (Lw ++ (L1 ++ L2)) by rw [List.append_assoc])
          rw [← List.append_assoc]
          exact List.perm_append_comm.append_right _
        · obtain ⟨L', q1, q2⟩ := k4 H' s' Ls' sm h'
          have q3 := g4 H' _ _ _ sm q1
          rw [set_same g1] at q3
          refine ⟨(a, .dK (ks.zip vs)) :: (L1 ++ (L' ++ L2)), ⟨a, vs, _, rfl, rfl, by rw [modify_set _ hx]; exact q3⟩, ?_⟩
          refine (List.Perm.cons _ ?_).trans List.perm_middle.symm
          refine List.Perm.trans ?_ (show List.Perm ((Ls' ++ L0) ++ (L1 ++ L2)) (Ls' ++ (L0 ++ (L1 ++ L2))) by rw [List.append_assoc])
          refine List.Perm.trans ?_ (q2.append_right (L1 ++ L2))
          refine List.Perm.trans ?_ (show List.Perm ((L' ++ L1) ++ L2) (L' ++ (L1 ++ L2)) by rw [List.append_assoc])
          rw [← List.append_assoc]
          exact List.perm_append_comm.append_right _
      · rw [if_neg hi] at e
        cases e
    | non => cases e
    | bl b => cases e
    | int b => cases e
    | str b => cases e
    | scr b => cases e
    | ty b => cases e
    | obj b => cases e
    | exc a b c f => cases e
    | kn b => cases e
end

/-! no known parts -/
mutual
def D.kf : D → Bool
  | .tup l => D.kfL l
  | .lst l => D.kfL l
  | .ins _ _ l => D.kfL l
  | .dic _ l => D.kfL l
  | .slf _ _ _ l => D.kfL l
  | .lsa _ l => D.kfL l
  | .kn _ => false
  | _ => true
def D.kfL : List D → Bool
  | [] => true
  | d :: l => D.kf d && D.kfL l
end
mutual
theorem IsC.any {K : PySem.W.Frag} {H H' : Hp} : ∀ (d : D) (v : V) (L : Op), d.kf = true → IsC K H d v L → IsC K H' d v L
  | .non, _, _, _, h => h
  | .bl _, _, _, _, h => h
  | .int _, _, _, _, h => h
  | .str _, _, _, _, h => h
  | .tup l, _, _, k, ⟨a, vs, Ls, h1, h2, h⟩ => ⟨a, vs, Ls, h1, h2, IsCL.any l vs Ls (by simpa [D.kf] using k) h⟩
  | .lst l, _, _, k, ⟨a, vs, Ls, h1, h2, h⟩ => ⟨a, vs, Ls, h1, h2, IsCL.any l vs Ls (by simpa [D.kf] using k) h⟩
  | .scr _, _, _, _, h => h
  | .ty _, _, _, _, h => h
  | .obj _, _, _, _, h => h
  | .exc _ _ _ _, _, _, _, h => h
  | .ins C ns l, _, _, k, ⟨a, dx, vs, Ls, h1, h2, h⟩ => ⟨a, dx, vs, Ls, h1, h2, IsCL.any l vs Ls (by simpa [D.kf] using k) h⟩
  | .dic ks l, _, _, k, ⟨a, vs, Ls, h1, h2, h⟩ => ⟨a, vs, Ls, h1, h2, IsCL.any l vs Ls (by simpa [D.kf] using k) h⟩
  | .slf a C ns l, _, _, k, ⟨h1, dx, vs, Ls, h2, h⟩ => ⟨h1, dx, vs, Ls, h2, IsCL.any l vs Ls (by simpa [D.kf] using k) h⟩
  | .lsa a l, _, _, k, ⟨h1, vs, Ls, h2, h⟩ => ⟨h1, vs, Ls, h2, IsCL.any l vs Ls (by simpa [D.kf] using k) h⟩
  | .kn d, _, _, k, _ => by simp [D.kf] at k
theorem IsCL.any {K : PySem.W.Frag} {H H' : Hp} : ∀ (l : List D) (vs : List V) (L : Op), D.kfL l = true → IsCL K H l vs L → IsCL K H' l vs L
  | [], _, _, _, h => h
  | d :: l, _, _, k, ⟨v, r, L1, L2, h1, h2, h3, h4⟩ => by
    have k' : d.kf = true ∧ D.kfL l = true := by simpa [D.kfL] using k
    exact ⟨v, r, L1, L2, h1, h2, IsC.any d v L1 k'.1 h3, IsCL.any l r L2 k'.2 h4⟩
end
theorem D.kfL_of {l : List D} (h : ∀ d ∈ l, d.kf = true) : D.kfL l = true := by
  induction l with
  | nil => rfl
  | cons d l ih => rw [D.kfL, h d List.mem_cons_self, ih fun x hx => h x (List.mem_cons_of_mem _ hx)] <;> rfl
theorem D.kf_lst {l : List D} (h : ∀ d ∈ l, d.kf = true) : (D.lst l).kf = true := by
  rw [D.kf, D.kfL_of h]

/-- numbers, texts, truth values, None -/
def D.sc : D → Bool
  | .non => true
  | .bl _ => true
  | .int _ => true
  | .str _ => true
  | .ty _ => true
  | .obj _ => true
  | _ => false
theorem D.sc_kf {d : D} (h : d.sc = true) : d.kf = true := by
  cases d <;> first | rfl | cases h
theorem Is.sc {K : PySem.W.Frag} {H : Hp} {d : D} {v : V} (h : Is K H d v) (e : d.sc = true) : IsC K H d v [] := by
  cases d <;> first | exact ⟨h, rfl⟩ | cases e
theorem Is.any {K : PySem.W.Frag} {H H' : Hp} {d : D} {v : V} (h : Is K H d v) (e : d.sc = true) : Is K H' d v := by
  cases d <;> first | exact h | cases e
theorem IsL.sc {K : PySem.W.Frag} {H : Hp} : ∀ {l : List D} {vs : List V}, IsL K H l vs → (∀ d ∈ l, d.sc = true) → IsCL K H l vs []
  | [], _, h, _ => ⟨h, rfl⟩
  | d :: l, _, ⟨v, r, e, h1, h2⟩, q => ⟨v, r, [], [], e, rfl, h1.sc (q d List.mem_cons_self), IsL.sc h2 fun x hx => q x (List.mem_cons_of_mem _ hx)⟩

/-! ### slots -/
inductive Sl where
  | no
  | im (d : D)
  | ow (l : List D)
  | cl (d : D)
abbrev Rho := List Sl
inductive EnR (K : PySem.W.Frag) (H : Hp) : Rho → L2.St → Op → Prop
  | nil : EnR K H [] [] []
  | no {ρ : Rho} {σ : L2.St} {L : Op} {x : Option V} : EnR K H ρ σ L → EnR K H (.no :: ρ) (x :: σ) L
  | im {ρ : Rho} {σ : L2.St} {L : Op} {d : D} {v : V} : Is K H d v → EnR K H ρ σ L → EnR K H (.im d :: ρ) (some v :: σ) L
  | ow {ρ : Rho} {σ : L2.St} {L : Op} {l : List D} {vs : List V} {p : Addr} : IsL K H l vs → EnR K H ρ σ L → EnR K H (.ow l :: ρ) (some (.ref p) :: σ) ((p, .lst vs) :: L)
  | cl {ρ : Rho} {σ : L2.St} {L Lc : Op} {d : D} {v : V} : IsC K H d v Lc → EnR K H ρ σ L → EnR K H (.cl d :: ρ) (some v :: σ) (Lc ++ L)
section
variable {K : PySem.W.Frag} {H H' : Hp} {ρ : Rho} {σ : L2.St} {L : Op}
theorem EnR.up (e : Same H H') (h : EnR K H ρ σ L) : EnR K H' ρ σ L := by
  induction h with
  | nil => exact .nil
  | no _ ih => exact .no ih
  | im h _ ih => exact .im (h.up e) ih
  | ow h _ ih => exact .ow (h.up e) ih
  | cl h _ ih => exact .cl (h.up e) ih
theorem EnR.len (h : EnR K H ρ σ L) : σ.length = ρ.length := by
  induction h with
  | nil => rfl
  | no _ ih => simp [ih]
  | im _ _ ih => simp [ih]
  | ow _ _ ih => simp [ih]
  | cl _ _ ih => simp [ih]
theorem EnR.get (h : EnR K H ρ σ L) : ∀ {i : Nat} {d : D}, ρ[i]? = some (.im d) → ∃ v, σ[i]? = some (some v) ∧ Is K H d v := by
  induction h with
  | nil => intro i d e; simp at e
  | no _ ih | ow _ _ ih | cl _ _ ih =>
    intro i d e
    cases i with
    | zero => cases e
    | succ i => exact ih (by simpa using e)
  | im h _ ih =>
    intro i d e
    cases i with
    | zero =>
      cases e
      exact ⟨_, rfl, h⟩
    | succ i => exact ih (by simpa using e)
/-- slot i alone: its own part, and how it may be filled anew; g: what of L stands before it, behind it -/
theorem EnR.at_ (h : EnR K H ρ σ L) : ∀ {i : Nat} {s : Sl}, ρ[i]? = some s → ∃ x Ls L1 L2, σ[i]? = some x ∧ L = L1 ++ (Ls ++ L2) ∧ EnR K H [s] [x] Ls ∧
    ∀ H' s' x' Ls', Same H H' → EnR K H' [s'] [x'] Ls' → EnR K H' (ρ.set i s') (σ.set i x') (L1 ++ (Ls' ++ L2)) := by
  have put : ∀ {H' : Hp} {s' : Sl} {x' : Option V} {Ls' : Op} {ρ : Rho} {σ : L2.St} {L : Op}, EnR K H' [s'] [x'] Ls' → EnR K H' ρ σ L → EnR K H' (s' :: ρ) (x' :: σ) (Ls' ++ L) := by
    intro H' s' x' Ls' ρ σ L h1 h2
    cases h1 with
    | no h => cases h; exact .no h2
    | im i h => cases h; exact .im i h2
    | ow i h => cases h; exact .ow i h2
    | cl i h =>
      cases h
      rw [List.append_nil]
      exact .cl i h2
  induction h with
  | nil => intro i s e; simp at e
  | @no ρ σ L x h ih =>
    intro i s e
    cases i with
    | zero =>
      cases e
      exact ⟨x, [], [], L, rfl, rfl, .no .nil, fun H' s' x' Ls' s0 q => (show EnR K H' (s' :: ρ) (x' :: σ) (Ls' ++ L) from put q (h.up s0))⟩
    | succ i =>
      obtain ⟨y, Ls, L1, L2, h1, h2, h3, h4⟩ := ih (by simpa using e)
      exact ⟨y, Ls, L1, L2, by simpa using h1, h2, h3, fun H' s' x' Ls' s0 q => .no (h4 H' s' x' Ls' s0 q)⟩
  | @im ρ σ L d v iv h ih =>
    intro i s e
    cases i with
    | zero =>
      cases e
      exact ⟨_, [], [], L, rfl, rfl, .im iv .nil, fun H' s' x' Ls' s0 q => (show EnR K H' (s' :: ρ) (x' :: σ) (Ls' ++ L) from put q (h.up s0))⟩
    | succ i =>
      obtain ⟨y, Ls, L1, L2, h1, h2, h3, h4⟩ := ih (by simpa using e)
      exact ⟨y, Ls, L1, L2, by simpa using h1, h2, h3, fun H' s' x' Ls' s0 q => .im (iv.up s0) (h4 H' s' x' Ls' s0 q)⟩
  | @ow ρ σ L l vs p iv h ih =>
    intro i s e
    cases i with
    | zero =>
      cases e
      exact ⟨_, [(p, .lst vs)], [], L, rfl, rfl, .ow iv .nil, fun H' s' x' Ls' s0 q => (show EnR K H' (s' :: ρ) (x' :: σ) (Ls' ++ L) from put q (h.up s0))⟩
    | succ i =>
      obtain ⟨y, Ls, L1, L2, h1, h2, h3, h4⟩ := ih (by simpa using e)
      exact ⟨y, Ls, (p, .lst vs) :: L1, L2, by simpa using h1, by rw [h2] <;> rfl, h3, fun H' s' x' Ls' s0 q => .ow (iv.up s0) (h4 H' s' x' Ls' s0 q)⟩
  | @cl ρ σ L Lc d v iv h ih =>
    intro i s e
    cases i with
    | zero =>
      cases e
      refine ⟨_, Lc, [], L, rfl, rfl, ?_, fun H' s' x' Ls' s0 q => (show EnR K H' (s' :: ρ) (x' :: σ) (Ls' ++ L) from put q (h.up s0))⟩
      have := EnR.cl (K := K) (H := H) iv .nil
      rw [List.append_nil] at this
      exact this
    | succ i =>
      obtain ⟨y, Ls, L1, L2, h1, h2, h3, h4⟩ := ih (by simpa using e)
      refine ⟨y, Ls, Lc ++ L1, L2, by simpa using h1, by rw [h2, List.append_assoc], h3, fun H' s' x' Ls' s0 q => ?_⟩
      rw [List.append_assoc]
      exact .cl (iv.up s0) (h4 H' s' x' Ls' s0 q)
theorem EnR.start {l : List D} {vs : List V} (hl : IsL K H l vs) (n : Nat) : EnR K H (l.map .im ++ List.replicate n .no) (vs.map some ++ List.replicate n none) [] := by
  induction l generalizing vs with
  | nil =>
    rw [show vs = [] from hl]
    induction n with
    | zero => exact .nil
    | succ n ih => exact .no ih
  | cons d l ih =>
    obtain ⟨v, r, e, h1, h2⟩ := hl
    rw [e]
    exact .im h1 (ih h2)
end

/-- M: what others have open; T0: the heap at the def's entry; X: what is open beside the slots -/
structure EnX (K : PySem.W.Frag) (M : Op) (T0 H T : Hp) (σ : L2.St) (ρ : Rho) (X : Op) : Prop where
  ex : ∃ L, EnR K H ρ σ L ∧ Opn H T (X ++ (L ++ M)) ∧ ∀ x ∈ X ++ L, T0 x.1 = none
  t0 : Same T0 T
abbrev En (K : PySem.W.Frag) (M : Op) (T0 H T : Hp) (σ : L2.St) (ρ : Rho) : Prop := EnX K M T0 H T σ ρ []
section
variable {K : PySem.W.Frag} {M : Op} {T0 H H' T T' : Hp} {ρ : Rho} {σ : L2.St} {X X' : Op} {p : Addr} {o : HO}
theorem EnX.same (h : EnX K M T0 H T σ ρ X) : Same H T := let ⟨_, _, q, _⟩ := h.ex; q.same
theorem EnX.get (h : EnX K M T0 H T σ ρ X) {i : Nat} {d : D} (e : ρ[i]? = some (.im d)) : ∃ v, σ[i]? = some (some v) ∧ Is K H d v := let ⟨_, r, _⟩ := h.ex; r.get e
theorem EnX.len (h : EnX K M T0 H T σ ρ X) : σ.length = ρ.length := let ⟨_, r, _⟩ := h.ex; r.len
/-- a new object, known at once -/
theorem EnX.new (h : EnX K M T0 H T σ ρ X) (hp : T p = none) : Same H (upd H p o) ∧ EnX K M T0 (upd H p o) (upd T p o) σ ρ X := by
  obtain ⟨L, r, q, f⟩ := h.ex
  have s : Same H (upd H p o) := same_new (q.fresh hp)
  exact ⟨s, ⟨L, r.up s, q.new hp, f⟩, h.t0.trans (same_new hp)⟩
theorem EnX.opened (h : EnX K M T0 H T σ ρ X) (hp : T p = none) (ho : NS o := by exact trivial) : EnX K M T0 H (upd T p o) σ ρ ((p, o) :: X) := by
  obtain ⟨L, r, q, f⟩ := h.ex
  refine ⟨⟨L, r, q.opened hp ho, fun x hx => ?_⟩, h.t0.trans (same_new hp)⟩
  rcases List.mem_cons.mp hx with rfl | hx
  · exact h.t0.free hp
  · exact f x hx
theorem EnX.close (h : EnX K M T0 H T σ ρ ((p, o) :: X)) : Same H (upd H p o) ∧ EnX K M T0 (upd H p o) T σ ρ X := by
  obtain ⟨L, r, q, f⟩ := h.ex
  obtain ⟨s, q'⟩ := Opn.close q
  exact ⟨s, ⟨L, r.up s, q', fun x hx => f x (List.mem_cons_of_mem _ hx)⟩, h.t0⟩
theorem EnX.write {o' : HO} (h : EnX K M T0 H T σ ρ ((p, o) :: X)) (ho : NS o' := by exact trivial) : EnX K M T0 H (upd T p o') σ ρ ((p, o') :: X) := by
  obtain ⟨L, r, q, f⟩ := h.ex
  refine ⟨⟨L, r, q.write ho, fun x hx => ?_⟩, fun b u e => ?_⟩
  · rcases List.mem_cons.mp hx with rfl | hx
    · exact f (p, o) List.mem_cons_self
    · exact f x (List.mem_cons_of_mem _ hx)
  · rw [upd_ne (ne_of_none e (f (p, o) List.mem_cons_self))]
    exact h.t0 b u e
theorem EnX.at_ (h : EnX K M T0 H T σ ρ ((p, o) :: X)) : T p = some o := let ⟨_, _, q, _⟩ := h.ex; q.at_ _ List.mem_cons_self
theorem EnX.sub (h : EnX K M T0 H T σ ρ X) (e : List.Sublist X' X) : EnX K M T0 H T σ ρ X' := by
  obtain ⟨L, r, q, f⟩ := h.ex
  exact ⟨⟨L, r, q.sub (e.append (List.Sublist.refl _)), fun x hx => f x ((e.append (List.Sublist.refl L)).subset hx)⟩, h.t0⟩
theorem EnX.perm (h : EnX K M T0 H T σ ρ X) (e : List.Perm X X') : EnX K M T0 H T σ ρ X' := by
  obtain ⟨L, r, q, f⟩ := h.ex
  exact ⟨⟨L, r, q.perm (e.append_right _), fun x hx => f x ((e.append_right L).mem_iff.mpr hx)⟩, h.t0⟩
/-- a closed tree is known from now on -/
theorem EnX.closeAll : ∀ {Lc : Op} {H : Hp}, EnX K M T0 H T σ ρ (Lc ++ X) → ∃ H', Same H H' ∧ EnX K M T0 H' T σ ρ X ∧ ∀ x ∈ Lc, H' x.1 = some x.2
  | [], H, h => ⟨H, Same.refl _, h, fun _ hx => by cases hx⟩
  | (p, o) :: r, H, h => by
    obtain ⟨s1, h1⟩ := EnX.close h
    obtain ⟨H', s2, h2, h3⟩ := EnX.closeAll h1
    refine ⟨H', s1.trans s2, h2, fun x hx => ?_⟩
    rcases List.mem_cons.mp hx with rfl | hx
    · exact s2 _ _ upd_same
    · exact h3 x hx
theorem EnX.frame (h : EnX K M T0 H T σ ρ X) : Opn H T M := by
  obtain ⟨L, r, q, f⟩ := h.ex
  exact q.sub ((List.sublist_append_right _ _).trans (List.sublist_append_right _ _))
theorem sl_one {s : Sl} {x : Option V} {d : D} {v : V} (h : Is K H d v) : EnR K H [.im d] [some v] [] := .im h .nil
/-- slot i filled anew by Ls', which stood in X -/
theorem EnX.fill {i : Nat} {s' : Sl} {x' : Option V} {Ls' : Op} (h : EnX K M T0 H T σ ρ (Ls' ++ X)) (hs : EnR K H [s'] [x'] Ls') (hi : i < ρ.length) : EnX K M T0 H T (σ.set i x') (ρ.set i s') X := by
  obtain ⟨L, r, q, f⟩ := h.ex
  obtain ⟨x, Ls, L1, L2, h1, h2, h3, h4⟩ := r.at_ (List.getElem?_eq_getElem hi)
  subst h2
  have sb : List.Sublist (Ls' ++ (X ++ ((L1 ++ L2) ++ M))) ((Ls' ++ X) ++ ((L1 ++ (Ls ++ L2)) ++ M)) := by
    rw [show (Ls' ++ X) ++ ((L1 ++ (Ls ++ L2)) ++ M) = Ls' ++ (X ++ ((L1 ++ (Ls ++ L2)) ++ M)) from List.append_assoc _ _ _]
    exact (List.Sublist.refl _).append ((List.Sublist.refl _).append (((List.Sublist.refl _).append (List.sublist_append_right _ _)).append (List.Sublist.refl _)))
  have pm : List.Perm (Ls' ++ (X ++ ((L1 ++ L2) ++ M))) (X ++ ((L1 ++ (Ls' ++ L2)) ++ M)) := by
    have e1 : Ls' ++ (X ++ ((L1 ++ L2) ++ M)) = (Ls' ++ (X ++ L1)) ++ (L2 ++ M) := by simp [List.append_assoc]
    have e2 : X ++ ((L1 ++ (Ls' ++ L2)) ++ M) = ((X ++ L1) ++ Ls') ++ (L2 ++ M) := by simp [List.append_assoc]
    rw [e1, e2]
    exact List.perm_append_comm.append_right _
  refine ⟨⟨_, h4 H s' x' Ls' (Same.refl _) hs, (q.sub sb).perm pm, fun z hz => ?_⟩, h.t0⟩
  refine f z ?_
  simp only [List.mem_append] at hz ⊢
  rcases hz with a | a | a | a
  · exact .inl (.inr a)
  · exact .inr (.inl a)
  · exact .inl (.inl a)
  · exact .inr (.inr (.inr a))
theorem set_out {α : Type} {l : List α} {i : Nat} {x : α} (h : l.length ≤ i) : l.set i x = l := List.set_eq_of_length_le h
theorem EnX.set {i : Nat} {d : D} {v : V} (h : EnX K M T0 H T σ ρ X) (hd : Is K H d v) : EnX K M T0 H T (σ.set i (some v)) (ρ.set i (.im d)) X := by
  by_cases hi : i < ρ.length
  · exact EnX.fill (Ls' := []) h (.im hd .nil) hi
  · rw [show σ.set i (some v) = σ from set_out (by have := h.len; omega), show ρ.set i (.im d) = ρ from set_out (by omega)]
    exact h
theorem EnX.drop {i : Nat} {x : Option V} (h : EnX K M T0 H T σ ρ X) : EnX K M T0 H T (σ.set i x) (ρ.set i .no) X := by
  by_cases hi : i < ρ.length
  · exact EnX.fill (Ls' := []) h (.no .nil) hi
  · rw [show σ.set i x = σ from set_out (by have := h.len; omega), show ρ.set i .no = ρ from set_out (by omega)]
    exact h
theorem EnX.setO {i : Nat} {l : List D} {vs : List V} (h : EnX K M T0 H T σ ρ ((p, .lst vs) :: X)) (hi : i < ρ.length) (hd : IsL K H l vs) : EnX K M T0 H T (σ.set i (some (.ref p))) (ρ.set i (.ow l)) X :=
  EnX.fill (Ls' := [(p, .lst vs)]) h (.ow hd .nil) hi
theorem EnX.setC {i : Nat} {d : D} {v : V} {Lc : Op} (h : EnX K M T0 H T σ ρ (Lc ++ X)) (hi : i < ρ.length) (hd : IsC K H d v Lc) : EnX K M T0 H T (σ.set i (some v)) (ρ.set i (.cl d)) X := by
  have q := EnR.cl (K := K) (H := H) hd .nil
  rw [List.append_nil] at q
  exact EnX.fill (Ls' := Lc) h q hi
theorem set_self : ∀ {α : Type} {l : List α} {i : Nat} {x : α}, l[i]? = some x → l.set i x = l
  | _, [], _, _, h => by simp at h
  | _, a :: l, 0, x, h => by
    have e : a = x := Option.some.inj h
    rw [e] <;> rfl
  | _, a :: l, i + 1, x, h => by
    show a :: l.set i x = a :: l
    rw [set_self (by simpa using h)]
theorem get_some {α : Type} {l : List α} {i : Nat} (h : i < l.length) : ∃ x, l[i]? = some x := ⟨l[i], List.getElem?_eq_getElem h⟩
/-- slot i emptied: its part stands in X -/
theorem EnX.take {i : Nat} {s : Sl} (h : EnX K M T0 H T σ ρ X) (e : ρ[i]? = some s) : ∃ x Ls, σ[i]? = some x ∧ EnR K H [s] [x] Ls ∧ EnX K M T0 H T σ (ρ.set i .no) (Ls ++ X) := by
  obtain ⟨L, r, q, f⟩ := h.ex
  obtain ⟨x, Ls, L1, L2, h1, h2, h3, h4⟩ := r.at_ e
  subst h2
  have q2 := h4 H .no x [] (Same.refl _) (.no .nil)
  rw [set_self h1] at q2
  have pm : List.Perm (X ++ ((L1 ++ (Ls ++ L2)) ++ M)) ((Ls ++ X) ++ ((L1 ++ ([] ++ L2)) ++ M)) := by
    have e1 : X ++ ((L1 ++ (Ls ++ L2)) ++ M) = ((X ++ L1) ++ Ls) ++ (L2 ++ M) := by simp [List.append_assoc]
    have e2 : (Ls ++ X) ++ ((L1 ++ ([] ++ L2)) ++ M) = (Ls ++ (X ++ L1)) ++ (L2 ++ M) := by simp [List.append_assoc]
    rw [e1, e2]
    exact List.perm_append_comm.append_right _
  refine ⟨x, Ls, h1, h3, ⟨_, q2, q.perm pm, fun z hz => f z ?_⟩, h.t0⟩
  simp only [List.mem_append, List.nil_append] at hz ⊢
  rcases hz with (a | a) | a | a
  · exact .inr (.inr (.inl a))
  · exact .inl a
  · exact .inr (.inl a)
  · exact .inr (.inr (.inr a))
theorem EnR.ow1 {l : List D} {x : Option V} {Ls : Op} (h : EnR K H [.ow l] [x] Ls) : ∃ p vs, x = some (.ref p) ∧ Ls = [(p, .lst vs)] ∧ IsL K H l vs := by
  cases h with
  | ow i h => cases h; exact ⟨_, _, rfl, rfl, i⟩
theorem EnR.cl1 {d : D} {x : Option V} {Ls : Op} (h : EnR K H [.cl d] [x] Ls) : ∃ v, x = some v ∧ IsC K H d v Ls := by
  cases h with
  | cl i h =>
    cases h
    rw [List.append_nil]
    exact ⟨_, rfl, i⟩
/-- the open list at slot i -/
theorem EnX.own {i : Nat} {l : List D} (h : EnX K M T0 H T σ ρ X) (e : ρ[i]? = some (.ow l)) : ∃ p vs, σ[i]? = some (some (.ref p)) ∧ T p = some (.lst vs) ∧ IsL K H l vs ∧
    (∀ l' vs', IsL K H l' vs' → EnX K M T0 H (upd T p (.lst vs')) σ (ρ.set i (.ow l')) X) ∧
    (Same H (upd H p (.lst vs)) ∧ EnX K M T0 (upd H p (.lst vs)) T σ (ρ.set i (.im (.lst l))) X) ∧
    EnX K M T0 H T σ (ρ.set i .no) ((p, .lst vs) :: X) := by
  obtain ⟨x, Ls, h1, h2, h3⟩ := h.take e
  obtain ⟨p, vs, rfl, rfl, h4⟩ := h2.ow1
  have hi : i < (ρ.set i .no).length := by rw [List.length_set]; exact (List.getElem?_eq_some_iff.mp e).1
  refine ⟨p, vs, h1, EnX.at_ h3, h4, fun l' vs' hl => ?_, ?_, h3⟩
  · have q := EnX.setO (i := i) (EnX.write (o' := .lst vs') h3) hi hl
    rw [set_self h1, List.set_set] at q
    exact q
  · obtain ⟨s, q⟩ := EnX.close h3
    have q2 := q.set (i := i) (d := .lst l) (v := .ref p) ⟨p, vs, rfl, upd_same, h4.up s⟩
    rw [set_self h1, List.set_set] at q2
    exact ⟨s, q2⟩
end
end FS
set_option Elab.async false
set_option linter.all false
set_option maxRecDepth 100000
set_option maxHeartbeats 4000000
namespace FS
open PySem PySem.Spec PyProof.Rows L2

/-! ### what an expression is worth -/
section
variable (K : PySem.W.Frag)
def EvD (te : TE) (ρ : Rho) (d : D) : Prop := ∀ (M : Op) (T0 H T : Hp) (σ : L2.St) (X : Op) (Q : VK), EnX K M T0 H T σ ρ X → (∀ v H' T', Same H H' → Same T T' → EnX K M T0 H' T' σ ρ X → Is K H' d v → Q v T') → te σ T Q
/-- a new list -/
def EvO (te : TE) (ρ : Rho) (l : List D) : Prop := ∀ (M : Op) (T0 H T : Hp) (σ : L2.St) (X : Op) (Q : VK), EnX K M T0 H T σ ρ X → (∀ p vs H' T', Same H H' → Same T T' → EnX K M T0 H' T' σ ρ ((p, .lst vs) :: X) → IsL K H' l vs → Q (.ref p) T') → te σ T Q
def EvT (tt : TT) (ρ : Rho) (b : Bool) : Prop := ∀ (M : Op) (T0 H T : Hp) (σ : L2.St) (X : Op) (Q : Bool → Hp → Prop), EnX K M T0 H T σ ρ X → (∀ H' T', Same H H' → Same T T' → EnX K M T0 H' T' σ ρ X → Q b T') → tt σ T Q
def EvA (ta : TA) (ρ : Rho) (ds : List D) : Prop := ∀ (M : Op) (T0 H T : Hp) (σ : L2.St) (X : Op) (Q : List V → Hp → Prop), EnX K M T0 H T σ ρ X → (∀ vs H' T', Same H H' → Same T T' → EnX K M T0 H' T' σ ρ X → IsL K H' ds vs → Q vs T') → ta σ T Q
/-- operations on values -/
def RvD (r : R2) (x y z : D) : Prop := ∀ (H T : Hp) (vx vy : V) (Q : VK), Same H T → Is K H x vx → Is K H y vy → (∀ v, Is K H z v → Q v T) → r vx vy T Q
def RuD (r : V → Hp → VK → Prop) (x z : D) : Prop := ∀ (H T : Hp) (vx : V) (Q : VK), Same H T → Is K H x vx → (∀ v, Is K H z v → Q v T) → r vx T Q
def RcD (r : List V → Hp → VK → Prop) (ds : List D) (z : D) : Prop := ∀ (H T : Hp) (vs : List V) (Q : VK), Same H T → IsL K H ds vs → (∀ v, Is K H z v → Q v T) → r vs T Q
/-- a call that makes a new list -/
def RcO (r : List V → Hp → VK → Prop) (ds l : List D) : Prop := ∀ (H T : Hp) (vs : List V) (Q : VK), Same H T → IsL K H ds vs → (∀ p us, T p = none → IsL K H l us → Q (.ref p) (upd T p (.lst us))) → r vs T Q
/-- an operation that makes a new list -/
def RvO (r : R2) (x y : D) (l : List D) : Prop := ∀ (H T : Hp) (vx vy : V) (Q : VK), Same H T → Is K H x vx → Is K H y vy → (∀ p us, T p = none → IsL K H l us → Q (.ref p) (upd T p (.lst us))) → r vx vy T Q
end

section
variable {K : PySem.W.Frag} {ρ : Rho} {ta tb te tc : TE} {t u : TT} {x y z d : D} {l : List D} {ds : List D} {tr : TA} {r : R2}
theorem EvD.is (h : EvD K te ρ x) (e : x = y) : EvD K te ρ y := e ▸ h
theorem EvO.is {l' : List D} (h : EvO K te ρ l) (e : l = l') : EvO K te ρ l' := e ▸ h
theorem EvT.is {a b : Bool} (h : EvT K t ρ a) (e : a = b) : EvT K t ρ b := e ▸ h
theorem ev_var {i : Nat} (e : ρ[i]? = some (.im d)) : EvD K (tVar i) ρ d := fun M T0 H T σ X Q h q => by
  obtain ⟨v, h1, h2⟩ := h.get e
  exact ⟨v, h1, q v H T (Same.refl _) (Same.refl _) h h2⟩
theorem ev_c {v : V} (hv : ∀ H, Is K H d v) : EvD K (tC v) ρ d := fun M T0 H T σ X Q h q => q v H T (Same.refl _) (Same.refl _) h (hv H)
theorem ev_int {i : Int} : EvD K (tC (.int i)) ρ (.int i) := ev_c fun _ => rfl
theorem ev_bl {b : Bool} : EvD K (tC (.bl b)) ρ (.bl b) := ev_c fun _ => rfl
theorem ev_non : EvD K (tC .non) ρ .non := ev_c fun _ => rfl
theorem ev_str {s : Str} : EvD K (tC (.str s)) ρ (.str s) := ev_c fun _ => rfl
/-- a new list, known from now on -/
theorem ev_fz (h : EvO K te ρ l) : EvD K te ρ (.lst l) := fun M T0 H T σ X Q e q => h M T0 H T σ X Q e fun p vs H' T' s t e' hl => by
  obtain ⟨s2, e2⟩ := e'.close
  exact q (.ref p) _ T' (s.trans s2) t e2 ⟨p, vs, rfl, upd_same, hl.up s2⟩
theorem ev_op (ha : EvD K ta ρ x) (hb : EvD K tb ρ y) (hr : RvD K r x y z) : EvD K (tOp r ta tb) ρ z := fun M T0 H T σ X Q e q =>
  ha M T0 H T σ X _ e fun v H1 T1 s1 t1 e1 i1 => hb M T0 H1 T1 σ X _ e1 fun w H2 T2 s2 t2 e2 i2 => hr H2 T2 v w Q e2.same (i1.up s2) i2 fun u iu => q u H2 T2 (s1.trans s2) (t1.trans t2) e2 iu
theorem ev_un {r : V → Hp → VK → Prop} (ha : EvD K ta ρ x) (hr : RuD K r x z) : EvD K (tUn r ta) ρ z := fun M T0 H T σ X Q e q =>
  ha M T0 H T σ X _ e fun v H1 T1 s1 t1 e1 i1 => hr H1 T1 v Q e1.same i1 fun u iu => q u H1 T1 s1 t1 e1 iu
theorem ev_opO (ha : EvD K ta ρ x) (hb : EvD K tb ρ y) (hr : RvO K r x y l) : EvO K (tOp r ta tb) ρ l := fun M T0 H T σ X Q e q =>
  ha M T0 H T σ X _ e fun v H1 T1 s1 t1 e1 i1 => hb M T0 H1 T1 σ X _ e1 fun w H2 T2 s2 t2 e2 i2 => hr H2 T2 v w Q e2.same (i1.up s2) i2 fun p us hp iu => q p us H2 _ (s1.trans s2) ((t1.trans t2).trans (same_new hp)) (e2.opened hp) iu
theorem ev_cb {r : List V → Hp → VK → Prop} (ha : EvA K tr ρ ds) (hr : RcD K r ds z) : EvD K (tCB r tr) ρ z := fun M T0 H T σ X Q e q =>
  ha M T0 H T σ X _ e fun vs H1 T1 s1 t1 e1 i1 => hr H1 T1 vs Q e1.same i1 fun u iu => q u H1 T1 s1 t1 e1 iu
theorem ev_cbO {r : List V → Hp → VK → Prop} (ha : EvA K tr ρ ds) (hr : RcO K r ds l) : EvO K (tCB r tr) ρ l := fun M T0 H T σ X Q e q =>
  ha M T0 H T σ X _ e fun vs H1 T1 s1 t1 e1 i1 => hr H1 T1 vs Q e1.same i1 fun p us hp iu => q p us H1 _ s1 (t1.trans (same_new hp)) (e1.opened hp) iu
theorem ea_nil : EvA K tNil ρ [] := fun M T0 H T σ X Q e q => q [] H T (Same.refl _) (Same.refl _) e rfl
theorem ea_cons (ha : EvD K ta ρ x) (hr : EvA K tr ρ ds) : EvA K (tCons ta tr) ρ (x :: ds) := fun M T0 H T σ X Q e q =>
  ha M T0 H T σ X _ e fun v H1 T1 s1 t1 e1 i1 => hr M T0 H1 T1 σ X _ e1 fun vs H2 T2 s2 t2 e2 i2 => q (v :: vs) H2 T2 (s1.trans s2) (t1.trans t2) e2 (.cons (i1.up s2) i2)
theorem ev_tup (ha : EvA K tr ρ ds) (hl : ds.length ≤ 1000) : EvD K (tTup tr) ρ (.tup ds) := fun M T0 H T σ X Q e q =>
  ha M T0 H T σ X _ e fun vs H1 T1 s1 t1 e1 i1 => ⟨by rw [i1.len]; exact Nat.le_trans hl (by decide), fun p hp => by
    obtain ⟨s2, e2⟩ := e1.new (o := .tup vs) hp
    exact q (.ref p) _ _ (s1.trans s2) (t1.trans (same_new hp)) e2 ⟨p, vs, rfl, .inl (.inl upd_same), i1.up s2⟩⟩
theorem evo_lst (ha : EvA K tr ρ ds) (hl : ds.length ≤ 1000) : EvO K (tLst tr) ρ ds := fun M T0 H T σ X Q e q =>
  ha M T0 H T σ X _ e fun vs H1 T1 s1 t1 e1 i1 => ⟨by rw [i1.len]; exact Nat.le_trans hl (by decide), fun p hp => q p vs H1 _ s1 (t1.trans (same_new hp)) (e1.opened hp) i1⟩
/-! tests -/
theorem et_test {b : Bool} (h : EvD K te ρ (.bl b)) : EvT K (tTest te) ρ b := fun M T0 H T σ X Q e q =>
  h M T0 H T σ X _ e fun v H1 T1 s1 t1 e1 i1 => ⟨b, i1, q H1 T1 s1 t1 e1⟩
theorem et_B {b : Bool} (h : EvD K te ρ (.bl b)) : EvT K (tB te) ρ b := fun M T0 H T σ X Q e q =>
  h M T0 H T σ X _ e fun v H1 T1 s1 t1 e1 i1 => ⟨b, i1, q H1 T1 s1 t1 e1⟩
theorem et_and {a b : Bool} (h1 : EvT K t ρ a) (h2 : a = true → EvT K u ρ b) : EvT K (tAnd t u) ρ (a && b) := fun M T0 H T σ X Q e q =>
  h1 M T0 H T σ X _ e fun H1 T1 s1 t1 e1 => by
    cases a with
    | true =>
      show u σ T1 Q
      exact h2 rfl M T0 H1 T1 σ X Q e1 fun H2 T2 s2 t2 e2 => q H2 T2 (s1.trans s2) (t1.trans t2) e2
    | false =>
      show Q false T1
      exact q H1 T1 s1 t1 e1
theorem et_or {a b : Bool} (h1 : EvT K t ρ a) (h2 : a = false → EvT K u ρ b) : EvT K (tOr t u) ρ (a || b) := fun M T0 H T σ X Q e q =>
  h1 M T0 H T σ X _ e fun H1 T1 s1 t1 e1 => by
    cases a with
    | true =>
      show Q true T1
      exact q H1 T1 s1 t1 e1
    | false =>
      show u σ T1 Q
      exact h2 rfl M T0 H1 T1 σ X Q e1 fun H2 T2 s2 t2 e2 => q H2 T2 (s1.trans s2) (t1.trans t2) e2
theorem et_not {a : Bool} (h1 : EvT K t ρ a) : EvT K (tNot t) ρ (!a) := fun M T0 H T σ X Q e q => h1 M T0 H T σ X _ e fun H1 T1 s1 t1 e1 => q H1 T1 s1 t1 e1
theorem et_yes : EvT K tYes ρ true := fun M T0 H T σ X Q e q => q H T (Same.refl _) (Same.refl _) e
theorem ev_andV {a b : Bool} (h1 : EvD K ta ρ (.bl a)) (h2 : a = true → EvD K tb ρ (.bl b)) : EvD K (tAndV ta tb) ρ (.bl (a && b)) := fun M T0 H T σ X Q e q =>
  h1 M T0 H T σ X _ e fun v H1 T1 s1 t1 e1 i1 => ⟨a, i1, by
    cases a with
    | true =>
      show tb σ T1 Q
      exact h2 rfl M T0 H1 T1 σ X Q e1 fun w H2 T2 s2 t2 e2 i2 => q w H2 T2 (s1.trans s2) (t1.trans t2) e2 i2
    | false =>
      show Q (.bl false) T1
      exact q _ H1 T1 s1 t1 e1 rfl⟩
theorem ev_orV {a b : Bool} (h1 : EvD K ta ρ (.bl a)) (h2 : a = false → EvD K tb ρ (.bl b)) : EvD K (tOrV ta tb) ρ (.bl (a || b)) := fun M T0 H T σ X Q e q =>
  h1 M T0 H T σ X _ e fun v H1 T1 s1 t1 e1 i1 => ⟨a, i1, by
    cases a with
    | true =>
      show Q (.bl true) T1
      exact q _ H1 T1 s1 t1 e1 rfl
    | false =>
      show tb σ T1 Q
      exact h2 rfl M T0 H1 T1 σ X Q e1 fun w H2 T2 s2 t2 e2 i2 => q w H2 T2 (s1.trans s2) (t1.trans t2) e2 i2⟩
theorem ev_notV {a : Bool} (h1 : EvD K ta ρ (.bl a)) : EvD K (tNotV ta) ρ (.bl (!a)) := fun M T0 H T σ X Q e q =>
  h1 M T0 H T σ X _ e fun v H1 T1 s1 t1 e1 i1 => ⟨a, i1, q _ H1 T1 s1 t1 e1 rfl⟩
theorem ev_if {b : Bool} (h : EvT K t ρ b) (h1 : b = true → EvD K ta ρ x) (h2 : b = false → EvD K tb ρ x) : EvD K (tIf t ta tb) ρ x := fun M T0 H T σ X Q e q =>
  h M T0 H T σ X _ e fun H1 T1 s1 t1 e1 => by
    cases b with
    | true =>
      show ta σ T1 Q
      exact h1 rfl M T0 H1 T1 σ X Q e1 fun w H2 T2 s2 t2 e2 i2 => q w H2 T2 (s1.trans s2) (t1.trans t2) e2 i2
    | false =>
      show tb σ T1 Q
      exact h2 rfl M T0 H1 T1 σ X Q e1 fun w H2 T2 s2 t2 e2 i2 => q w H2 T2 (s1.trans s2) (t1.trans t2) e2 i2

/-! operations on ints and others -/
theorem rv_I0 {g : Int → Int → V} {i j : Int} (hz : ∀ H, Is K H z (g i j)) : RvD K (rI0 g) (.int i) (.int j) z := fun H T vx vy Q s h1 h2 q => ⟨i, j, h1, h2, q _ (hz H)⟩
theorem rv_I {C : Int → Int → Prop} {g : Int → Int → V} {i j : Int} (hc : C i j) (hz : ∀ H, Is K H z (g i j)) : RvD K (rI C g) (.int i) (.int j) z := fun H T vx vy Q s h1 h2 q => ⟨i, j, h1, h2, hc, q _ (hz H)⟩
theorem ru_I {g : Int → V} {i : Int} (hz : ∀ H, Is K H z (g i)) : RuD K (rU g) (.int i) z := fun H T vx Q s h1 q => ⟨i, h1, q _ (hz H)⟩
theorem rv_eqI {i j : Int} : RvD K rEq (.int i) (.int j) (.bl (decide (i = j))) := fun H T vx vy Q s h1 h2 q => by
  rw [show vx = V.int i from h1, show vy = V.int j from h2]
  exact ⟨rfl, q _ (by rw [dec_int]; exact congrArg V.bl (Bool.beq_eq_decide_eq i j))⟩
theorem rv_neI {i j : Int} : RvD K rNe (.int i) (.int j) (.bl (!decide (i = j))) := fun H T vx vy Q s h1 h2 q => by
  rw [show vx = V.int i from h1, show vy = V.int j from h2]
  exact ⟨rfl, q _ (by rw [dec_int]; exact congrArg (fun b => V.bl (!b)) (Bool.beq_eq_decide_eq i j))⟩
theorem rv_eqS {i j : Str} : RvD K rEq (.str i) (.str j) (.bl (decide (i = j))) := fun H T vx vy Q s h1 h2 q => by
  rw [show vx = V.str i from h1, show vy = V.str j from h2]
  refine ⟨rfl, q _ ?_⟩
  show V.bl (decide (V.str i = V.str j)) = V.bl (decide (i = j))
  by_cases e : i = j
  · rw [decide_eq_true e, decide_eq_true (by rw [e])]
  · rw [decide_eq_false e, decide_eq_false (fun z => e (V.str.inj z))]
theorem rv_neS {i j : Str} : RvD K rNe (.str i) (.str j) (.bl (!decide (i = j))) := fun H T vx vy Q s h1 h2 q => by
  rw [show vx = V.str i from h1, show vy = V.str j from h2]
  refine ⟨rfl, q _ ?_⟩
  show V.bl (!decide (V.str i = V.str j)) = V.bl (!decide (i = j))
  by_cases e : i = j
  · rw [decide_eq_true e, decide_eq_true (by rw [e])]
  · rw [decide_eq_false e, decide_eq_false (fun z => e (V.str.inj z))]
/-- is None -/
def isNon : D → Bool
  | .non => true
  | .kn d => isNon d
  | _ => false
theorem isNon_ok {H : Hp} {v : V} : ∀ (x : D), Is K H x v → decide (v = .non) = isNon x
  | .non, h => by rw [show v = V.non from h] <;> rfl
  | .bl b, h => by rw [show v = V.bl b from h] <;> rfl
  | .int b, h => by rw [show v = V.int b from h] <;> rfl
  | .str b, h => by rw [show v = V.str b from h] <;> rfl
  | .tup l, h => by obtain ⟨a, vs, rfl, _⟩ := h; rfl
  | .lst l, h => by obtain ⟨a, vs, rfl, _⟩ := h; rfl
  | .scr l, h => by obtain ⟨a, rfl, _⟩ := h; rfl
  | .ty n, h => by rw [show v = V.ty n from h] <;> rfl
  | .obj a, h => by rw [show v = V.ref a from h] <;> rfl
  | .ins C ns l, h => by obtain ⟨a, dx, vs, rfl, _⟩ := h; rfl
  | .exc a od ns l, h => by obtain ⟨rfl, _⟩ := h; rfl
  | .dic ks l, h => by obtain ⟨a, vs, rfl, _⟩ := h; rfl
  | .slf a C ns l, h => by obtain ⟨rfl, _⟩ := h; rfl
  | .lsa a l, h => by obtain ⟨rfl, _⟩ := h; rfl
  | .kn d, h => by rw [isNon_ok d (show Is K H d v from h), isNon]
theorem rv_isN : RvD K (fun x y H Q => y = .non ∧ Q (.bl (decide (x = .non))) H) x .non (.bl (isNon x)) := fun H T vx vy Q s h1 h2 q => ⟨h2, q _ (congrArg V.bl (isNon_ok _ h1))⟩
theorem rv_notN : RvD K (fun x y H Q => y = .non ∧ Q (.bl (!decide (x = .non))) H) x .non (.bl (!isNon x)) := fun H T vx vy Q s h1 h2 q => ⟨h2, q _ (congrArg (fun b => V.bl (!b)) (isNon_ok _ h1))⟩
theorem atI_is {H : Hp} {vs : List V} {i : Int} (h : IsL K H l vs) (e : atI l i = some d) : ∃ v, atI vs i = some v ∧ Is K H d v := by
  unfold atI at e ⊢
  rw [h.len]
  cases q : ixN l.length i with
  | none => rw [q] at e; cases e
  | some j =>
    rw [q] at e
    exact h.get (i := j) e
theorem at_nat {j : Nat} (h : l[j]? = some d) : atI l (j : Int) = some d := atI_nat h
theorem rv_ixL {i : Int} (e : atI l i = some d) : RvD K (rIxL K) (.lst l) (.int i) d := fun H T vx vy Q s ⟨a, vs, h0, h1, h2⟩ h3 q => by
  obtain ⟨v, e1, e2⟩ := atI_is h2 e
  exact ⟨a, vs, i, v, h0, h3, .inl (.inl (s _ _ h1)), e1, q v e2⟩
theorem rv_ixT {i : Int} (e : atI l i = some d) : RvD K (rIxT K) (.tup l) (.int i) d := fun H T vx vy Q s ⟨a, vs, h0, h1, h2⟩ h3 q => by
  obtain ⟨v, e1, e2⟩ := atI_is h2 e
  exact ⟨a, vs, i, v, h0, h3, same_t s h1, e1, q v e2⟩
theorem rv_ixC {ns : List Int} {i n : Int} (e : atI ns i = some n) : RvD K (rIxL K) (.scr ns) (.int i) (.int n) := fun H T vx vy Q s ⟨a, h0, h1⟩ h3 q => by
  refine ⟨a, ns.map V.int, i, .int n, h0, h3, s.seq h1, ?_, q _ rfl⟩
  unfold atI at e ⊢
  rw [List.length_map]
  cases q : ixN ns.length i with
  | none => rw [q] at e; cases e
  | some j =>
    rw [q] at e
    have e : ns[j]? = some n := e
    show (ns.map V.int)[j]? = _
    rw [List.getElem?_map, e]
    rfl
theorem rv_ixxL {i : Int} (e : atI l i = some d) : RvD K (rIx K) (.lst l) (.int i) d := fun H T vx vy Q s h1 h2 q => .inl (rv_ixL e H T vx vy Q s h1 h2 q)
theorem rv_ixxT {i : Int} (e : atI l i = some d) : RvD K (rIx K) (.tup l) (.int i) d := fun H T vx vy Q s h1 h2 q => .inr (.inl (rv_ixT e H T vx vy Q s h1 h2 q))
theorem rv_ixxC {ns : List Int} {i n : Int} (e : atI ns i = some n) : RvD K (rIx K) (.scr ns) (.int i) (.int n) := fun H T vx vy Q s h1 h2 q => .inl (rv_ixC e H T vx vy Q s h1 h2 q)
/-- an open list's item -/
theorem ev_ixO {i : Nat} {k : Int} (e : ρ[i]? = some (.ow l)) (hb : EvD K tb ρ (.int k)) (ha : atI l k = some d) : EvD K (tOp (rIx K) (tVar i) tb) ρ d := fun M T0 H T σ X Q h q => by
  obtain ⟨p, vs, h1, h2, h4, _⟩ := h.own e
  refine ⟨.ref p, h1, hb M T0 H T σ X _ h fun w H2 T2 s2 t2 e2 i2 => ?_⟩
  obtain ⟨p', vs', g1, g2, g4, _⟩ := e2.own e
  rw [h1] at g1
  cases g1
  obtain ⟨v, e3, e4⟩ := atI_is g4 ha
  exact .inl ⟨p, vs', k, v, rfl, i2, .inl (.inl g2), e3, q v H2 T2 s2 t2 e2 e4⟩
/-- len -/
abbrev rLen (K : PySem.W.Frag) : List V → Hp → VK → Prop := fun xs H Q => ∃ p ys, xs = [.ref p] ∧ (SqL K H p ys ∨ SqT K H p ys) ∧ Q (.int ys.length) H
theorem isL_one {H : Hp} {vs : List V} (h : IsL K H [d] vs) : ∃ v, vs = [v] ∧ Is K H d v := by
  obtain ⟨v, r, e, h1, h2⟩ := h
  rw [e, show r = [] from h2]
  exact ⟨v, rfl, h1⟩
theorem isL_two {H : Hp} {vs : List V} {d' : D} (h : IsL K H [d, d'] vs) : ∃ v w, vs = [v, w] ∧ Is K H d v ∧ Is K H d' w := by
  obtain ⟨v, r, e, h1, h2⟩ := h
  obtain ⟨w, e2, h3⟩ := isL_one h2
  rw [e, e2]
  exact ⟨v, w, rfl, h1, h3⟩
theorem rc_lenL : RcD K (rLen K) [.lst l] (.int (l.length : Int)) := fun H T vs Q s h q => by
  obtain ⟨v, rfl, a, us, rfl, h1, h2⟩ := isL_one h
  exact ⟨a, us, rfl, .inl (.inl (.inl (s _ _ h1))), q _ (by rw [h2.len]; exact (rfl : V.int _ = V.int _))⟩
theorem rc_lenT : RcD K (rLen K) [.tup l] (.int (l.length : Int)) := fun H T vs Q s h q => by
  obtain ⟨v, rfl, a, us, rfl, h1, h2⟩ := isL_one h
  exact ⟨a, us, rfl, .inr (same_t s h1), q _ (by rw [h2.len]; exact (rfl : V.int _ = V.int _))⟩
theorem rc_lenC {ns : List Int} : RcD K (rLen K) [.scr ns] (.int (ns.length : Int)) := fun H T vs Q s h q => by
  obtain ⟨v, rfl, a, rfl, h1⟩ := isL_one h
  exact ⟨a, ns.map V.int, rfl, .inl (s.seq h1), q _ (by rw [List.length_map]; exact (rfl : V.int _ = V.int _))⟩
theorem ev_lenO {i : Nat} (e : ρ[i]? = some (.ow l)) : EvD K (tCB (rLen K) (tCons (tVar i) tNil)) ρ (.int (l.length : Int)) := fun M T0 H T σ X Q h q => by
  obtain ⟨p, vs, h1, h2, h4, _⟩ := h.own e
  exact ⟨.ref p, h1, p, vs, rfl, .inl (.inl (.inl h2)), q _ H T (Same.refl _) (Same.refl _) h (by rw [h4.len]; exact (rfl : V.int _ = V.int _))⟩
theorem rc_int {i : Int} : RcD K (fun xs H Q => (∃ i, xs = [.int i] ∧ Q (.int i) H) ∨ ∃ k, xs = [.bl k] ∧ Q (.int (if k then 1 else 0)) H) [.int i] (.int i) := fun H T vs Q s h q => by
  obtain ⟨v, rfl, hv⟩ := isL_one h
  exact .inl ⟨i, by rw [show v = V.int i from hv], q _ rfl⟩
theorem rc_intB {b : Bool} : RcD K (fun xs H Q => (∃ i, xs = [.int i] ∧ Q (.int i) H) ∨ ∃ k, xs = [.bl k] ∧ Q (.int (if k then 1 else 0)) H) [.bl b] (.int (if b then 1 else 0)) := fun H T vs Q s h q => by
  obtain ⟨v, rfl, hv⟩ := isL_one h
  exact .inr ⟨b, by rw [show v = V.bl b from hv], q _ rfl⟩
theorem rc_abs {i : Int} : RcD K (fun xs H Q => ∃ i, xs = [.int i] ∧ Q (.int (if i < 0 then -i else i)) H) [.int i] (.int (i.natAbs : Int)) := fun H T vs Q s h q => by
  obtain ⟨v, rfl, hv⟩ := isL_one h
  refine ⟨i, by rw [show v = V.int i from hv], q _ ?_⟩
  show V.int _ = V.int _
  congr 1
  split <;> omega
theorem rc_gcd {a b : Int} : RcD K rGcd [.int a, .int b] (.int ((Nat.gcd a.natAbs b.natAbs : Nat) : Int)) := fun H T vs Q s h q => by
  obtain ⟨v, w, rfl, hv, hw⟩ := isL_two h
  exact ⟨a, b, by rw [show v = V.int a from hv, show w = V.int b from hw], q _ rfl⟩
theorem rc_list : RcO K (fun xs H Q => ∃ p ys, xs = [.ref p] ∧ (SqL K H p ys ∨ SqT K H p ys) ∧ ∀ l, H l = none → Q (.ref l) (upd H l (.lst ys))) [.lst l] l := fun H T vs Q s h q => by
  obtain ⟨v, rfl, a, us, rfl, h1, h2⟩ := isL_one h
  exact ⟨a, us, rfl, .inl (.inl (.inl (s _ _ h1))), fun p hp => q p us hp h2⟩
theorem rc_listT : RcO K (fun xs H Q => ∃ p ys, xs = [.ref p] ∧ (SqL K H p ys ∨ SqT K H p ys) ∧ ∀ l, H l = none → Q (.ref l) (upd H l (.lst ys))) [.tup l] l := fun H T vs Q s h q => by
  obtain ⟨v, rfl, a, us, rfl, h1, h2⟩ := isL_one h
  exact ⟨a, us, rfl, .inr (same_t s h1), fun p hp => q p us hp h2⟩
theorem rvo_cat {l' : List D} (hz : l.length + l'.length ≤ 100000) : RvO K rCat (.lst l) (.lst l') (l ++ l') := fun H T vx vy Q s ⟨a, us, e1, h1, h2⟩ ⟨b, ws, e2, h3, h4⟩ q =>
  ⟨a, b, us, ws, e1, e2, s _ _ h1, s _ _ h3, by rw [h2.len, h4.len]; exact Nat.le_trans hz (by decide), fun p hp => q p _ hp (h2.app h4)⟩
theorem rvo_rep {k : Int} (h1 : -(2 ^ 63) ≤ k ∧ k < 2 ^ 63) (hz : l.length * k.toNat ≤ 100000) : RvO K rRep (.lst l) (.int k) (List.replicate k.toNat l).flatten := fun H T vx vy Q s ⟨a, us, e1, g1, g2⟩ g3 q =>
  ⟨a, k, us, e1, g3, s _ _ g1, h1.1, h1.2, by rw [g2.len]; exact Nat.le_trans hz (by decide), fun p hp => q p _ hp (by
    induction k.toNat with
    | zero => exact (rfl : [] = [])
    | succ n ih =>
      rw [List.replicate_succ, List.replicate_succ, List.flatten_cons, List.flatten_cons]
      exact g2.app ih)⟩
end

/-! ### calls of the text's own defs -/
/-- an exception's data: its class, the names and the values of its fields -/
abbrev Exn := Value × List Str × List D
def IsX (K : PySem.W.Frag) (T0 H : Hp) (od : Option Addr) (ns : List Str) (ds : List D) : Prop := (ns = [] ∧ od = none) ∨ ∃ d vs, od = some d ∧ H d = some (.xd (ns.zip vs)) ∧ IsL K H ds vs ∧ T0 d = none
theorem IsX.is {K : PySem.W.Frag} {T0 H : Hp} {od : Option Addr} {ns : List Str} {ds : List D} (h : IsX K T0 H od ns ds) : (ns = [] ∧ od = none) ∨ ∃ d vs, od = some d ∧ H d = some (.xd (ns.zip vs)) ∧ IsL K H ds vs := by
  rcases h with h | ⟨d, vs, h1, h2, h3, _⟩
  · exact .inl h
  · exact .inr ⟨d, vs, h1, h2, h3⟩
theorem IsX.dn {K : PySem.W.Frag} {T T1 H : Hp} {od : Option Addr} {ns : List Str} {ds : List D} (h : IsX K T1 H od ns ds) (t : Same T T1) : IsX K T H od ns ds := by
  rcases h with h | ⟨d, vs, h1, h2, h3, h4⟩
  · exact .inl h
  · exact .inr ⟨d, vs, h1, h2, h3, t.free h4⟩
/-- what is handed back; T0: the heap at the entry -/
def RetR (K : PySem.W.Frag) (M : Op) (T0 H T : Hp) (v : V) : Sl → Prop
  | .no => False
  | .im d => Is K H d v ∧ Opn H T M
  | .ow l => ∃ p vs, v = .ref p ∧ IsL K H l vs ∧ Opn H T ((p, .lst vs) :: M) ∧ T0 p = none
  | .cl d => ∃ Lc, IsC K H d v Lc ∧ Opn H T (Lc ++ M) ∧ ∀ x ∈ Lc, T0 x.1 = none
/-- a promise over data: what is asked of the arguments, of what comes back (R), of what is raised (Z) -/
abbrev PrD := List D → (Sl → Prop) → (Exn → Prop) → Prop
def spD (K : PySem.W.Frag) (P : PrD) : Sp := fun vs T Q E => ∃ (M : Op) (H : Hp) (ds : List D) (R : Sl → Prop) (Z : Exn → Prop), Opn H T M ∧ IsL K H ds vs ∧ P ds R Z ∧
  (∀ s v H' T', R s → Same H H' → Same T T' → RetR K M T H' T' v s → Q v T') ∧ ∀ c ns es od H' T', Z (c, ns, es) → Same H H' → Same T T' → Opn H' T' M → IsX K T H' od ns es → E c od T'
section
variable {K : PySem.W.Frag} {ρ : Rho} {x z d : D} {l : List D} {ds : List D} {tr : TA} {P : PrD} {E : XK} {M X L : Op} {T0 H H' T T' : Hp} {σ : L2.St} {v : V}
theorem EnX.ret_im (e : EnX K M T0 H T σ ρ X) (r : EnR K H ρ σ L) (f : ∀ x ∈ X ++ L, T0 x.1 = none) (s : Same H H') (t : Same T T') (q : RetR K (X ++ (L ++ M)) T H' T' v (.im d)) : EnX K M T0 H' T' σ ρ X ∧ Is K H' d v :=
  ⟨⟨⟨L, r.up s, q.2, f⟩, e.t0.trans t⟩, q.1⟩
theorem EnX.ret_ow (e : EnX K M T0 H T σ ρ X) (r : EnR K H ρ σ L) (f : ∀ x ∈ X ++ L, T0 x.1 = none) (s : Same H H') (t : Same T T') (q : RetR K (X ++ (L ++ M)) T H' T' v (.ow l)) : ∃ p vs, v = .ref p ∧ EnX K M T0 H' T' σ ρ ((p, .lst vs) :: X) ∧ IsL K H' l vs := by
  obtain ⟨p, vs, rfl, h1, h2, h3⟩ := q
  refine ⟨p, vs, rfl, ⟨⟨L, r.up s, h2, fun x hx => ?_⟩, e.t0.trans t⟩, h1⟩
  rcases List.mem_cons.mp hx with rfl | hx
  · exact e.t0.free h3
  · exact f x hx
theorem EnX.ret_cl (e : EnX K M T0 H T σ ρ X) (r : EnR K H ρ σ L) (f : ∀ x ∈ X ++ L, T0 x.1 = none) (s : Same H H') (t : Same T T') (q : RetR K (X ++ (L ++ M)) T H' T' v (.cl d)) : ∃ Lc, EnX K M T0 H' T' σ ρ (Lc ++ X) ∧ IsC K H' d v Lc := by
  obtain ⟨Lc, h1, h2, h3⟩ := q
  refine ⟨Lc, ⟨⟨L, r.up s, by rw [List.append_assoc]; exact h2, fun x hx => ?_⟩, e.t0.trans t⟩, h1⟩
  rw [List.append_assoc] at hx
  rcases List.mem_append.mp hx with hx | hx
  · exact e.t0.free (h3 x hx)
  · exact f x hx
theorem ev_call (ha : EvA K tr ρ ds) (hp : P ds (fun s => s = .im z) (fun _ => False)) : EvD K (tCall (spD K P) [] E tr) ρ z := fun M T0 H T σ X Q e q =>
  ha M T0 H T σ X _ e fun vs H1 T1 s1 t1 e1 i1 => by
    obtain ⟨L, r, o, f⟩ := e1.ex
    show spD K P (vs ++ []) T1 Q E
    rw [List.append_nil]
    refine ⟨_, H1, ds, _, _, o, i1, hp, fun s v H' T' hs s' t' hr => ?_, fun _ _ _ _ _ _ h => h.elim⟩
    subst hs
    obtain ⟨e2, iz⟩ := e1.ret_im r f s' t' hr
    exact q v H' T' (s1.trans s') (t1.trans t') e2 iz
theorem ev_callO (ha : EvA K tr ρ ds) (hp : P ds (fun s => s = .ow l) (fun _ => False)) : EvO K (tCall (spD K P) [] E tr) ρ l := fun M T0 H T σ X Q e q =>
  ha M T0 H T σ X _ e fun vs H1 T1 s1 t1 e1 i1 => by
    obtain ⟨L, r, o, f⟩ := e1.ex
    show spD K P (vs ++ []) T1 Q E
    rw [List.append_nil]
    refine ⟨_, H1, ds, _, _, o, i1, hp, fun s v H' T' hs s' t' hr => ?_, fun _ _ _ _ _ _ h => h.elim⟩
    subst hs
    obtain ⟨p, us, rfl, e2, iz⟩ := e1.ret_ow r f s' t' hr
    exact q p us H' T' (s1.trans s') (t1.trans t') e2 iz
end

/-! calls that may raise; what raises -/
section
variable {K : PySem.W.Frag} {ρ : Rho} {x z d : D} {l : List D} {ds : List D} {tr : TA} {P : PrD} {W : L2.WX}
theorem ev_callS (ha : EvA K tr ρ ds) (hp : P ds (fun s => s = .im z) (fun _ => False)) : EvD K (tCallS (spD K P) (WE W) tr) ρ z := fun M T0 H T σ X Q e q =>
  ha M T0 H T σ X _ e fun vs H1 T1 s1 t1 e1 i1 => by
    obtain ⟨L, r, o, f⟩ := e1.ex
    refine ⟨_, H1, ds, _, _, o, i1, hp, fun s v H' T' hs s' t' hr => ?_, fun _ _ _ _ _ _ h => h.elim⟩
    subst hs
    obtain ⟨e2, iz⟩ := e1.ret_im r f s' t' hr
    exact q v H' T' (s1.trans s') (t1.trans t') e2 iz
theorem ev_callSO (ha : EvA K tr ρ ds) (hp : P ds (fun s => s = .ow l) (fun _ => False)) : EvO K (tCallS (spD K P) (WE W) tr) ρ l := fun M T0 H T σ X Q e q =>
  ha M T0 H T σ X _ e fun vs H1 T1 s1 t1 e1 i1 => by
    obtain ⟨L, r, o, f⟩ := e1.ex
    refine ⟨_, H1, ds, _, _, o, i1, hp, fun s v H' T' hs s' t' hr => ?_, fun _ _ _ _ _ _ h => h.elim⟩
    subst hs
    obtain ⟨p, us, rfl, e2, iz⟩ := e1.ret_ow r f s' t' hr
    exact q p us H' T' (s1.trans s') (t1.trans t') e2 iz
/-- te raises z -/
def EvZ (K : PySem.W.Frag) (W : L2.WX) (te : TE) (ρ : Rho) (z : Exn) : Prop := ∀ (M : Op) (T0 H T : Hp) (σ : L2.St) (X : Op) (Q : VK), EnX K M T0 H T σ ρ X → (∀ od H' T', Same H H' → Same T T' → EnX K M T0 H' T' σ ρ X → IsX K T H' od z.2.1 z.2.2 → W z.1 od σ T') → te σ T Q
def EvZA (K : PySem.W.Frag) (W : L2.WX) (ta : TA) (ρ : Rho) (z : Exn) : Prop := ∀ (M : Op) (T0 H T : Hp) (σ : L2.St) (X : Op) (Q : List V → Hp → Prop), EnX K M T0 H T σ ρ X → (∀ od H' T', Same H H' → Same T T' → EnX K M T0 H' T' σ ρ X → IsX K T H' od z.2.1 z.2.2 → W z.1 od σ T') → ta σ T Q
theorem ez_call {z : Exn} (ha : EvA K tr ρ ds) (hp : P ds (fun _ => False) (fun z' => z' = z)) : EvZ K W (tCallS (spD K P) (WE W) tr) ρ z := fun M T0 H T σ X Q e q =>
  ha M T0 H T σ X _ e fun vs H1 T1 s1 t1 e1 i1 => by
    obtain ⟨L, r, o, f⟩ := e1.ex
    refine ⟨_, H1, ds, _, _, o, i1, hp, fun _ _ _ _ h => h.elim, fun c ns es od H' T' hz s' t' o' hx => ?_⟩
    subst hz
    exact q od H' T' (s1.trans s') (t1.trans t') ⟨⟨L, r.up s', o', f⟩, e1.t0.trans t'⟩ (hx.dn t1)
theorem ez_args {z : Exn} {sp : Sp} {E : L2.St → XK} (ha : EvZA K W tr ρ z) : EvZ K W (tCallS sp E tr) ρ z := fun M T0 H T σ X Q e q => ha M T0 H T σ X _ e q
theorem eza_here {z : Exn} {ta : TE} (h : EvZ K W ta ρ z) : EvZA K W (tCons ta tr) ρ z := fun M T0 H T σ X Q e q => h M T0 H T σ X _ e q
theorem eza_next {z : Exn} {ta : TE} (ha : EvD K ta ρ x) (h : EvZA K W tr ρ z) : EvZA K W (tCons ta tr) ρ z := fun M T0 H T σ X Q e q =>
  ha M T0 H T σ X _ e fun v H1 T1 s1 t1 e1 i1 => h M T0 H1 T1 σ X _ e1 fun od H' T' s' t' e' hx => q od H' T' (s1.trans s') (t1.trans t') e' (hx.dn t1)
theorem ez_lst {z : Exn} (ha : EvZA K W tr ρ z) : EvZ K W (tLst tr) ρ z := fun M T0 H T σ X Q e q => ha M T0 H T σ X _ e q
theorem ez_tup {z : Exn} (ha : EvZA K W tr ρ z) : EvZ K W (tTup tr) ρ z := fun M T0 H T σ X Q e q => ha M T0 H T σ X _ e q
theorem ez_cb {z : Exn} {r : List V → Hp → VK → Prop} (ha : EvZA K W tr ρ z) : EvZ K W (tCB r tr) ρ z := fun M T0 H T σ X Q e q => ha M T0 H T σ X _ e q
theorem ez_op1 {z : Exn} {ta tb : TE} {r : R2} (ha : EvZ K W ta ρ z) : EvZ K W (tOp r ta tb) ρ z := fun M T0 H T σ X Q e q => ha M T0 H T σ X _ e q
theorem ez_op2 {z : Exn} {ta tb : TE} {r : R2} (ha : EvD K ta ρ x) (h : EvZ K W tb ρ z) : EvZ K W (tOp r ta tb) ρ z := fun M T0 H T σ X Q e q =>
  ha M T0 H T σ X _ e fun v H1 T1 s1 t1 e1 i1 => h M T0 H1 T1 σ X _ e1 fun od H' T' s' t' e' hx => q od H' T' (s1.trans s') (t1.trans t') e' (hx.dn t1)
end

/-! ### closed results, and what is read now (no matter who owns it) -/
section
variable (K : PySem.W.Frag)
def EvC (te : TE) (ρ : Rho) (d : D) : Prop := ∀ (M : Op) (T0 H T : Hp) (σ : L2.St) (X : Op) (Q : VK), EnX K M T0 H T σ ρ X → (∀ v Lc H' T', Same H H' → Same T T' → EnX K M T0 H' T' σ ρ (Lc ++ X) → IsC K H' d v Lc → Q v T') → te σ T Q
def EvCA (ta : TA) (ρ : Rho) (ds : List D) : Prop := ∀ (M : Op) (T0 H T : Hp) (σ : L2.St) (X : Op) (Q : List V → Hp → Prop), EnX K M T0 H T σ ρ X → (∀ vs Lc H' T', Same H H' → Same T T' → EnX K M T0 H' T' σ ρ (Lc ++ X) → IsCL K H' ds vs Lc → Q vs T') → ta σ T Q
def EvN (te : TE) (ρ : Rho) (d : D) : Prop := ∀ (M : Op) (T0 H T : Hp) (σ : L2.St) (X : Op) (Q : VK), EnX K M T0 H T σ ρ X → (∀ v H' T', Same H H' → Same T T' → EnX K M T0 H' T' σ ρ X → Is K T' d v → Q v T') → te σ T Q
def EvNA (ta : TA) (ρ : Rho) (ds : List D) : Prop := ∀ (M : Op) (T0 H T : Hp) (σ : L2.St) (X : Op) (Q : List V → Hp → Prop), EnX K M T0 H T σ ρ X → (∀ vs H' T', Same H H' → Same T T' → EnX K M T0 H' T' σ ρ X → IsL K T' ds vs → Q vs T') → ta σ T Q
end
section
variable {K : PySem.W.Frag} {ρ : Rho} {x y z d : D} {l : List D} {ds : List D} {te ta tb : TE} {tr : TA} {P : PrD} {E : XK} {r : R2} {i : Nat}
theorem ec_sc (h : EvD K te ρ d) (hs : d.sc = true) : EvC K te ρ d := fun M T0 H T σ X Q e q =>
  h M T0 H T σ X _ e fun v H1 T1 s1 t1 e1 i1 => q v [] H1 T1 s1 t1 e1 (i1.sc hs)
theorem ec_ow (h : EvO K te ρ l) (hs : ∀ d ∈ l, d.sc = true) : EvC K te ρ (.lst l) := fun M T0 H T σ X Q e q =>
  h M T0 H T σ X _ e fun p vs H1 T1 s1 t1 e1 i1 => q (.ref p) [(p, .lst vs)] H1 T1 s1 t1 e1 ⟨p, vs, [], rfl, rfl, i1.sc hs⟩
/-- known already -/
theorem ec_kn (h : EvD K te ρ d) : EvC K te ρ (.kn d) := fun M T0 H T σ X Q e q => h M T0 H T σ X _ e fun v H1 T1 s1 t1 e1 i1 => q v [] H1 T1 s1 t1 e1 ⟨i1, rfl⟩
theorem ec_is (h : EvC K te ρ x) (e : x = y) : EvC K te ρ y := e ▸ h
/-- known from now on -/
theorem ec_fz (h : EvC K te ρ d) : EvD K te ρ d := fun M T0 H T σ X Q e q =>
  h M T0 H T σ X _ e fun v Lc H1 T1 s1 t1 e1 i1 => by
    obtain ⟨H2, s2, e2, h2⟩ := e1.closeAll
    exact q v H2 T1 (s1.trans s2) t1 e2 (IsC.is d v Lc (i1.up s2) h2)
theorem eca_nil : EvCA K tNil ρ [] := fun M T0 H T σ X Q e q => q [] [] H T (Same.refl _) (Same.refl _) e ⟨rfl, rfl⟩
theorem eca_cons (ha : EvC K ta ρ x) (hr : EvCA K tr ρ ds) : EvCA K (tCons ta tr) ρ (x :: ds) := fun M T0 H T σ X Q e q =>
  ha M T0 H T σ X _ e fun v L1 H1 T1 s1 t1 e1 i1 => hr M T0 H1 T1 σ _ _ e1 fun vs L2 H2 T2 s2 t2 e2 i2 => q (v :: vs) (L1 ++ L2) H2 T2 (s1.trans s2) (t1.trans t2) (e2.perm (by
    rw [← List.append_assoc]
    exact List.perm_append_comm.append_right _)) (IsCL.cons (i1.up s2) i2)
/-- things with a place of their own -/
def _root_.FS.D.rf : D → Bool
  | .tup _ => true
  | .lst _ => true
  | .scr _ => true
  | .obj _ => true
  | .ins _ _ _ => true
  | .exc _ _ _ _ => true
  | .dic _ _ => true
  | .slf _ _ _ _ => true
  | .lsa _ _ => true
  | .kn d => d.rf
  | _ => false
theorem Is.rf {H : Hp} : ∀ {d : D} {v : V}, Is K H d v → d.rf = true → ∃ a, v = .ref a
  | .tup _, _, ⟨a, _, e, _⟩, _ => ⟨a, e⟩
  | .lst _, _, ⟨a, _, e, _⟩, _ => ⟨a, e⟩
  | .scr _, _, ⟨a, e, _⟩, _ => ⟨a, e⟩
  | .obj a, _, h, _ => ⟨a, h⟩
  | .ins _ _ _, _, ⟨a, _, _, e, _⟩, _ => ⟨a, e⟩
  | .exc a _ _ _, _, ⟨e, _⟩, _ => ⟨a, e⟩
  | .dic _ _, _, ⟨a, _, e, _⟩, _ => ⟨a, e⟩
  | .slf a _ _ _, _, ⟨e, _⟩, _ => ⟨a, e⟩
  | .lsa a _, _, ⟨e, _⟩, _ => ⟨a, e⟩
  | .kn d, v, h, e => Is.rf (d := d) (show Is K H d v from h) e
theorem IsC.rf {H : Hp} {d : D} {v : V} {L : Op} (h : IsC K H d v L) (e : d.rf = true) : ∃ a, v = .ref a := by
  cases d with
  | tup l => obtain ⟨a, _, _, h, _⟩ := h; exact ⟨a, h⟩
  | lst l => obtain ⟨a, _, _, h, _⟩ := h; exact ⟨a, h⟩
  | obj a => exact ⟨a, h.1⟩
  | ins C ns l => obtain ⟨a, _, _, _, h, _⟩ := h; exact ⟨a, h⟩
  | dic ks l => obtain ⟨a, _, _, h, _⟩ := h; exact ⟨a, h⟩
  | slf a C ns l => exact ⟨a, h.1⟩
  | lsa a l => exact ⟨a, h.1⟩
  | kn d => exact Is.rf h.1 e
  | scr _ => exact h.elim
  | exc _ _ _ _ => exact h.elim
  | _ => cases e
theorem IsCL.rf {H : Hp} : ∀ {l : List D} {vs : List V} {L : Op}, IsCL K H l vs L → l.any D.rf = true → ∃ a, V.ref a ∈ vs
  | [], _, _, _, e => by cases e
  | d :: l, _, _, ⟨v, r, L1, L2, h1, h2, h3, h4⟩, e => by
    rw [h1]
    rw [List.any_cons, Bool.or_eq_true] at e
    rcases e with e | e
    · obtain ⟨a, rfl⟩ := h3.rf e
      exact ⟨a, List.mem_cons_self⟩
    · obtain ⟨a, ha⟩ := IsCL.rf h4 e
      exact ⟨a, List.mem_cons_of_mem _ ha⟩
theorem ec_tup (ha : EvCA K tr ρ ds) (hl : ds.length ≤ 1000) (hr : ds.any D.rf = true) : EvC K (tTup tr) ρ (.tup ds) := fun M T0 H T σ X Q e q =>
  ha M T0 H T σ X _ e fun vs L H1 T1 s1 t1 e1 i1 => ⟨by rw [i1.len]; exact Nat.le_trans hl (by decide), fun p hp => q (.ref p) ((p, .tup vs) :: L) H1 _ s1 (t1.trans (same_new hp)) (e1.opened hp (i1.rf hr)) ⟨p, vs, L, rfl, rfl, i1⟩⟩
theorem ec_lst (ha : EvCA K tr ρ ds) (hl : ds.length ≤ 1000) : EvC K (tLst tr) ρ (.lst ds) := fun M T0 H T σ X Q e q =>
  ha M T0 H T σ X _ e fun vs L H1 T1 s1 t1 e1 i1 => ⟨by rw [i1.len]; exact Nat.le_trans hl (by decide), fun p hp => q (.ref p) ((p, .lst vs) :: L) H1 _ s1 (t1.trans (same_new hp)) (e1.opened hp) ⟨p, vs, L, rfl, rfl, i1⟩⟩
theorem ec_call (ha : EvA K tr ρ ds) (hp : P ds (fun s => s = .cl z) (fun _ => False)) : EvC K (tCall (spD K P) [] E tr) ρ z := fun M T0 H T σ X Q e q =>
  ha M T0 H T σ X _ e fun vs H1 T1 s1 t1 e1 i1 => by
    obtain ⟨L, r, o, f⟩ := e1.ex
    show spD K P (vs ++ []) T1 Q E
    rw [List.append_nil]
    refine ⟨_, H1, ds, _, _, o, i1, hp, fun s v H' T' hs s' t' hr => ?_, fun _ _ _ _ _ _ h => h.elim⟩
    subst hs
    obtain ⟨Lc, e2, iz⟩ := e1.ret_cl r f s' t' hr
    exact q v Lc H' T' (s1.trans s') (t1.trans t') e2 iz
theorem ec_callS {W : L2.WX} (ha : EvA K tr ρ ds) (hp : P ds (fun s => s = .cl z) (fun _ => False)) : EvC K (tCallS (spD K P) (WE W) tr) ρ z := fun M T0 H T σ X Q e q =>
  ha M T0 H T σ X _ e fun vs H1 T1 s1 t1 e1 i1 => by
    obtain ⟨L, r, o, f⟩ := e1.ex
    refine ⟨_, H1, ds, _, _, o, i1, hp, fun s v H' T' hs s' t' hr => ?_, fun _ _ _ _ _ _ h => h.elim⟩
    subst hs
    obtain ⟨Lc, e2, iz⟩ := e1.ret_cl r f s' t' hr
    exact q v Lc H' T' (s1.trans s') (t1.trans t') e2 iz
/-! now -/
theorem en_d (h : EvD K te ρ d) : EvN K te ρ d := fun M T0 H T σ X Q e q => h M T0 H T σ X _ e fun v H1 T1 s1 t1 e1 i1 => q v H1 T1 s1 t1 e1 (i1.up e1.same)
theorem EnX.get_cl {M X : Op} {T0 H T : Hp} {σ : L2.St} (h : EnX K M T0 H T σ ρ X) (e : ρ[i]? = some (.cl d)) : ∃ v, σ[i]? = some (some v) ∧ Is K T d v := by
  obtain ⟨x, Ls, h1, h2, h3⟩ := h.take e
  obtain ⟨v, rfl, hc⟩ := h2.cl1
  refine ⟨v, h1, IsC.is d v Ls (hc.up h3.same) fun x hx => ?_⟩
  obtain ⟨L, r, q, f⟩ := h3.ex
  exact q.at_ x (List.mem_append_left _ (List.mem_append_left _ hx))
theorem en_cl (e : ρ[i]? = some (.cl d)) : EvN K (tVar i) ρ d := fun M T0 H T σ X Q en q => by
  obtain ⟨v, h1, h2⟩ := en.get_cl e
  exact ⟨v, h1, q v H T (Same.refl _) (Same.refl _) en h2⟩
theorem en_ow (e : ρ[i]? = some (.ow l)) : EvN K (tVar i) ρ (.lst l) := fun M T0 H T σ X Q en q => by
  obtain ⟨p, vs, h1, h2, h3, _⟩ := en.own e
  exact ⟨.ref p, h1, q _ H T (Same.refl _) (Same.refl _) en ⟨p, vs, rfl, h2, h3.up en.same⟩⟩
theorem en_op (ha : EvN K ta ρ x) (hb : EvN K tb ρ y) (hr : RvD K r x y z) : EvN K (tOp r ta tb) ρ z := fun M T0 H T σ X Q e q =>
  ha M T0 H T σ X _ e fun v H1 T1 s1 t1 e1 i1 => hb M T0 H1 T1 σ X _ e1 fun w H2 T2 s2 t2 e2 i2 => hr T2 T2 v w Q (Same.refl _) (i1.up t2) i2 fun u iu => q u H2 T2 (s1.trans s2) (t1.trans t2) e2 iu
theorem en_cb {r : List V → Hp → VK → Prop} (ha : EvNA K tr ρ ds) (hr : RcD K r ds z) : EvN K (tCB r tr) ρ z := fun M T0 H T σ X Q e q =>
  ha M T0 H T σ X _ e fun vs H1 T1 s1 t1 e1 i1 => hr T1 T1 vs Q (Same.refl _) i1 fun u iu => q u H1 T1 s1 t1 e1 iu
/-- a number, a text .. read now is one for ever -/
theorem ev_now (h : EvN K te ρ d) (hs : d.sc = true) : EvD K te ρ d := fun M T0 H T σ X Q e q => h M T0 H T σ X _ e fun v H1 T1 s1 t1 e1 i1 => q v H1 T1 s1 t1 e1 (i1.any hs)
theorem ena_nil : EvNA K tNil ρ [] := fun M T0 H T σ X Q e q => q [] H T (Same.refl _) (Same.refl _) e rfl
theorem ena_cons (ha : EvN K ta ρ x) (hr : EvNA K tr ρ ds) : EvNA K (tCons ta tr) ρ (x :: ds) := fun M T0 H T σ X Q e q =>
  ha M T0 H T σ X _ e fun v H1 T1 s1 t1 e1 i1 => hr M T0 H1 T1 σ X _ e1 fun vs H2 T2 s2 t2 e2 i2 => q (v :: vs) H2 T2 (s1.trans s2) (t1.trans t2) e2 (.cons (i1.up t2) i2)
theorem Opn.all {T : Hp} : Opn T T [] := ⟨Same.refl _, fun _ h => (nomatch h), fun _ h => (nomatch h), List.nodup_nil, fun _ h => (nomatch h)⟩
/-- after a call to which all was lent -/
theorem EnX.lent {M X : Op} {T0 H T T' : Hp} {σ : L2.St} (e : EnX K M T0 H T σ ρ X) (t : Same T T') : EnX K M T0 H T' σ ρ X := by
  obtain ⟨L, r, o, f⟩ := e.ex
  exact ⟨⟨L, r, ⟨o.same.trans t, o.free, fun x hx => t _ _ (o.at_ x hx), o.nd, o.nt⟩, f⟩, e.t0.trans t⟩
theorem EnX.lentC {M X Lc : Op} {T0 H T T' H' : Hp} {σ : L2.St} (e : EnX K M T0 H T σ ρ X) (t : Same T T') (s : Same T H') (o' : Opn H' T' (Lc ++ [])) (f' : ∀ x ∈ Lc, T x.1 = none) : EnX K M T0 H T' σ ρ (Lc ++ X) := by
  rw [List.append_nil] at o'
  obtain ⟨L, r, o, f⟩ := e.ex
  refine ⟨⟨L, r, ⟨o.same.trans t, fun x hx => ?_, fun x hx => ?_, ?_, fun x hx => ?_⟩, fun x hx => ?_⟩, e.t0.trans t⟩
  · rw [List.append_assoc] at hx
    rcases List.mem_append.mp hx with hx | hx
    · exact o.same.free (f' x hx)
    · exact o.free x hx
  · rw [List.append_assoc] at hx
    rcases List.mem_append.mp hx with hx | hx
    · exact o'.at_ x hx
    · exact t _ _ (o.at_ x hx)
  · rw [List.append_assoc, List.map_append, List.nodup_append]
    refine ⟨o'.nd, o.nd, fun a ha b hb z => ?_⟩
    obtain ⟨x, hx, ex⟩ := List.mem_map.mp ha
    obtain ⟨y, hy, ey⟩ := List.mem_map.mp hb
    have h1 := f' x hx
    have h2 := o.at_ y hy
    rw [ex, z, ← ey, h2] at h1
    cases h1
  · rw [List.append_assoc] at hx
    rcases List.mem_append.mp hx with hx | hx
    · exact o'.nt x hx
    · exact o.nt x hx
  · rw [List.append_assoc] at hx
    rcases List.mem_append.mp hx with hx | hx
    · exact e.t0.free (f' x hx)
    · exact f x hx
/-- a call that may read all there is; it hands back a number, a text .. -/
theorem ev_callN (ha : EvNA K tr ρ ds) (hp : P ds (fun s => s = .im z) (fun _ => False)) (hz : z.sc = true) : EvD K (tCall (spD K P) [] E tr) ρ z := fun M T0 H T σ X Q e q =>
  ha M T0 H T σ X _ e fun vs H1 T1 s1 t1 e1 i1 => by
    show spD K P (vs ++ []) T1 Q E
    rw [List.append_nil]
    refine ⟨[], T1, ds, _, _, Opn.all, i1, hp, fun s v H' T' hs s' t' hr => ?_, fun _ _ _ _ _ _ h => h.elim⟩
    subst hs
    exact q v H1 T' s1 (t1.trans t') (e1.lent t') (hr.1.any hz)
/-- a call that may read all there is; it hands back something closed -/
theorem ec_callN (ha : EvNA K tr ρ ds) (hp : P ds (fun s => s = .cl z) (fun _ => False)) (hk : z.kf = true) : EvC K (tCall (spD K P) [] E tr) ρ z := fun M T0 H T σ X Q e q =>
  ha M T0 H T σ X _ e fun vs H1 T1 s1 t1 e1 i1 => by
    show spD K P (vs ++ []) T1 Q E
    rw [List.append_nil]
    refine ⟨[], T1, ds, _, _, Opn.all, i1, hp, fun s v H' T' hs s' t' hr => ?_, fun _ _ _ _ _ _ h => h.elim⟩
    subst hs
    obtain ⟨Lc, h1, h2, h3⟩ := hr
    exact q v Lc H1 T' s1 (t1.trans t') (e1.lentC t' s' h2 h3) (IsC.any z v Lc hk h1)
theorem ec_cbN {r : List V → Hp → VK → Prop} (ha : EvNA K tr ρ ds) (hr : RcO K r ds l) (hs : ∀ d ∈ l, d.sc = true) : EvC K (tCB r tr) ρ (.lst l) := fun M T0 H T σ X Q e q =>
  ha M T0 H T σ X _ e fun vs H1 T1 s1 t1 e1 i1 => hr T1 T1 vs Q (Same.refl _) i1 fun p us hp iu => q (.ref p) [(p, .lst us)] H1 _ s1 (t1.trans (same_new hp)) (e1.opened hp) ⟨p, us, [], rfl, rfl, IsCL.any l us [] (D.kfL_of fun d hd => D.sc_kf (hs d hd)) (iu.sc hs)⟩
end
end FS
set_option Elab.async false
set_option linter.all false
set_option maxRecDepth 100000
set_option maxHeartbeats 4000000
namespace FS
open PySem PySem.Spec PyProof.Rows L2

/-! ### statements -/
structure Pst where
  nx : Rho → Prop
  rt : Sl → Prop := fun _ => False
  bk : Rho → Prop := fun _ => False
  ct : Rho → Prop := fun _ => False
  ex : Rho → Exn → Prop := fun _ _ => False
structure Lk (K : PySem.W.Frag) (M : Op) (E : L2.WX) (T0 H : Hp) (P : Pst) (Dn : Ends) : Prop where
  nx : ∀ ρ' σ' H' T', P.nx ρ' → Same H H' → En K M T0 H' T' σ' ρ' → Dn.nx σ' T'
  rt : ∀ s v H' T', P.rt s → Same H H' → Same T0 T' → RetR K M T0 H' T' v s → Dn.rt v T'
  bk : ∀ ρ' σ' H' T', P.bk ρ' → Same H H' → En K M T0 H' T' σ' ρ' → Dn.bk σ' T'
  ct : ∀ ρ' σ' H' T', P.ct ρ' → Same H H' → En K M T0 H' T' σ' ρ' → Dn.ct σ' T'
  ex : ∀ ρ' σ' c ns es od H' T', P.ex ρ' (c, ns, es) → Same H H' → En K M T0 H' T' σ' ρ' → IsX K T0 H' od ns es → E c od σ' T'
/-- from ρ on, the code ends as P says -/
def Ws (K : PySem.W.Frag) (E : L2.WX) (ts : TS) (ρ : Rho) (P : Pst) : Prop := ∀ (M : Op) (T0 H T : Hp) (σ : L2.St) (Dn : Ends), En K M T0 H T σ ρ → Lk K M E T0 H P Dn → ts Dn σ T

section
variable {K : PySem.W.Frag} {E : L2.WX} {ρ : Rho} {P : Pst} {M X : Op} {T0 H H' T T' : Hp} {σ : L2.St} {Dn : Ends} {te ta tb : TE} {t u : TS} {tt : TT} {d x y : D} {l : List D} {ds : List D} {tr : TA} {g : TG} {i : Nat}
theorem Lk.up (k : Lk K M E T0 H P Dn) (s : Same H H') : Lk K M E T0 H' P Dn :=
  ⟨fun ρ' σ' H2 T' p s' e => k.nx ρ' σ' H2 T' p (s.trans s') e, fun v w H2 T' p s' t' e => k.rt v w H2 T' p (s.trans s') t' e, fun ρ' σ' H2 T' p s' e => k.bk ρ' σ' H2 T' p (s.trans s') e, fun ρ' σ' H2 T' p s' e => k.ct ρ' σ' H2 T' p (s.trans s') e,
    fun ρ' σ' c ns es od H2 T' p s' e => k.ex ρ' σ' c ns es od H2 T' p (s.trans s') e⟩
theorem ws_seq (h : Ws K E t ρ { P with nx := fun ρ' => Ws K E u ρ' P }) : Ws K E (tSeq t u) ρ P := fun M T0 H T σ Dn e k =>
  h M T0 H T σ { Dn with nx := u Dn } e ⟨fun ρ' σ' H' T' p s e' => p M T0 H' T' σ' Dn e' (k.up s), k.rt, k.bk, k.ct, k.ex⟩
theorem ws_mono {P' : Pst} (h : Ws K E t ρ P) (h1 : ∀ ρ', P.nx ρ' → P'.nx ρ') (h2 : ∀ s, P.rt s → P'.rt s) (h3 : ∀ ρ', P.bk ρ' → P'.bk ρ') (h4 : ∀ ρ', P.ct ρ' → P'.ct ρ') (h5 : ∀ ρ' z, P.ex ρ' z → P'.ex ρ' z) : Ws K E t ρ P' := fun M T0 H T σ Dn e k =>
  h M T0 H T σ Dn e ⟨fun ρ' σ' H' T' p => k.nx ρ' σ' H' T' (h1 ρ' p), fun s v H' T' p => k.rt s v H' T' (h2 s p), fun ρ' σ' H' T' p => k.bk ρ' σ' H' T' (h3 ρ' p), fun ρ' σ' H' T' p => k.ct ρ' σ' H' T' (h4 ρ' p), fun ρ' σ' c ns es od H' T' p => k.ex ρ' σ' c ns es od H' T' (h5 _ _ p)⟩
theorem ws_next (h : P.nx ρ) : Ws K E tNext ρ P := fun M T0 H T σ Dn e k => k.nx ρ σ H T h (Same.refl _) e
theorem ws_break (h : P.bk ρ) : Ws K E tBreak ρ P := fun M T0 H T σ Dn e k => k.bk ρ σ H T h (Same.refl _) e
theorem ws_cont (h : P.ct ρ) : Ws K E tCont ρ P := fun M T0 H T σ Dn e k => k.ct ρ σ H T h (Same.refl _) e
theorem ws_asg (hv : EvD K te ρ d) (h : P.nx (ρ.set i (.im d))) : Ws K E (tAsg te (gName i)) ρ P := fun M T0 H T σ Dn e k =>
  hv M T0 H T σ [] _ e fun v H' T' s t' e' iv => k.nx _ _ H' T' h s (e'.set iv)
theorem ws_asgO (hv : EvO K te ρ l) (hi : i < ρ.length) (h : P.nx (ρ.set i (.ow l))) : Ws K E (tAsg te (gName i)) ρ P := fun M T0 H T σ Dn e k =>
  hv M T0 H T σ [] _ e fun p vs H' T' s t' e' iv => k.nx _ _ H' T' h s (EnX.setO e' hi iv)
theorem ws_asgC (hv : EvC K te ρ d) (hi : i < ρ.length) (h : P.nx (ρ.set i (.cl d))) : Ws K E (tAsg te (gName i)) ρ P := fun M T0 H T σ Dn e k =>
  hv M T0 H T σ [] _ e fun v Lc H' T' s t' e' iv => k.nx _ _ H' T' h s (EnX.setC e' hi iv)
theorem ws_drop (hv : EvD K te ρ d) (h : P.nx ρ) : Ws K E (tDrop te) ρ P := fun M T0 H T σ Dn e k =>
  hv M T0 H T σ [] _ e fun v H' T' s t' e' iv => k.nx _ _ H' T' h s e'
theorem ws_ret (hv : EvD K te ρ d) (h : P.rt (.im d)) : Ws K E (tRet te) ρ P := fun M T0 H T σ Dn e k =>
  hv M T0 H T σ [] _ e fun v H' T' s t' e' iv => k.rt (.im d) v H' T' h s e'.t0 ⟨iv, e'.frame⟩
theorem EnX.give (e : EnX K M T0 H T σ ρ (X ++ [])) : Opn H T (X ++ M) ∧ ∀ x ∈ X, T0 x.1 = none := by
  rw [List.append_nil] at e
  obtain ⟨L, r, q, f⟩ := e.ex
  exact ⟨q.sub ((List.Sublist.refl X).append (List.sublist_append_right L M)), fun x hx => f x (List.mem_append_left _ hx)⟩
theorem ws_retO (hv : EvO K te ρ l) (h : P.rt (.ow l)) : Ws K E (tRet te) ρ P := fun M T0 H T σ Dn e k =>
  hv M T0 H T σ [] _ e fun p vs H' T' s t' e' iv => k.rt (.ow l) (.ref p) H' T' h s e'.t0 ⟨p, vs, rfl, iv, (EnX.give (X := [(p, .lst vs)]) e').1, (EnX.give (X := [(p, .lst vs)]) e').2 _ List.mem_cons_self⟩
theorem ws_retC (hv : EvC K te ρ d) (h : P.rt (.cl d)) : Ws K E (tRet te) ρ P := fun M T0 H T σ Dn e k =>
  hv M T0 H T σ [] _ e fun v Lc H' T' s t' e' iv => k.rt (.cl d) v H' T' h s e'.t0 ⟨Lc, iv, (EnX.give e').1, (EnX.give e').2⟩
/-- return x, x an open list, a closed tree -/
theorem ws_retV (e : ρ[i]? = some (.ow l)) (h : P.rt (.ow l)) : Ws K E (tRet (tVar i)) ρ P := fun M T0 H T σ Dn en k => by
  obtain ⟨p, vs, h1, h2, h4, h5, h6, h7⟩ := en.own e
  exact ⟨.ref p, h1, k.rt (.ow l) (.ref p) H T h (Same.refl _) en.t0 ⟨p, vs, rfl, h4, (EnX.give (X := [(p, .lst vs)]) h7).1, (EnX.give (X := [(p, .lst vs)]) h7).2 _ List.mem_cons_self⟩⟩
theorem ws_retVc (e : ρ[i]? = some (.cl d)) (h : P.rt (.cl d)) : Ws K E (tRet (tVar i)) ρ P := fun M T0 H T σ Dn en k => by
  obtain ⟨x, Ls, h1, h2, h3⟩ := en.take e
  obtain ⟨v, rfl, hc⟩ := h2.cl1
  exact ⟨v, h1, k.rt (.cl d) v H T h (Same.refl _) en.t0 ⟨Ls, hc, (EnX.give h3).1, (EnX.give h3).2⟩⟩
theorem ws_retN (h : P.rt (.im .non)) : Ws K E tRetN ρ P := fun M T0 H T σ Dn e k => k.rt (.im .non) .non H T h (Same.refl _) e.t0 ⟨rfl, e.frame⟩
theorem ws_if {b : Bool} (hc : EvT K tt ρ b) (h1 : b = true → Ws K E t ρ P) (h2 : b = false → Ws K E u ρ P) : Ws K E (tIfS tt t u) ρ P := fun M T0 H T σ Dn e k =>
  hc M T0 H T σ [] _ e fun H' T' s t' e' => by
    cases b with
    | true =>
      show t Dn σ T'
      exact h1 rfl M T0 H' T' σ Dn e' (k.up s)
    | false =>
      show u Dn σ T'
      exact h2 rfl M T0 H' T' σ Dn e' (k.up s)
/-- the open list at slot i is known from now on -/
theorem ws_fz (e : ρ[i]? = some (.ow l)) (h : Ws K E t (ρ.set i (.im (.lst l))) P) : Ws K E t ρ P := fun M T0 H T σ Dn en k => by
  obtain ⟨p, vs, h1, h2, h4, h5, ⟨s, h6⟩, h7⟩ := en.own e
  exact h M T0 _ T σ Dn h6 (k.up s)
theorem ws_fzC (e : ρ[i]? = some (.cl d)) (h : Ws K E t (ρ.set i (.im d)) P) : Ws K E t ρ P := fun M T0 H T σ Dn en k => by
  obtain ⟨x, Ls, h1, h2, h3⟩ := en.take e
  obtain ⟨v, rfl, hc⟩ := h2.cl1
  obtain ⟨H2, s2, e2, h4⟩ := h3.closeAll
  have e3 := e2.set (i := i) (IsC.is (K := K) d v Ls (hc.up s2) h4)
  rw [set_self h1, List.set_set] at e3
  exact h M T0 H2 T σ Dn e3 (k.up s2)
/-- an open list of numbers is a closed tree -/
theorem ws_owcl (e : ρ[i]? = some (.ow l)) (hs : ∀ d ∈ l, d.sc = true) (h : Ws K E t (ρ.set i (.cl (.lst l))) P) : Ws K E t ρ P := fun M T0 H T σ Dn en k => by
  obtain ⟨x, Ls, h1, h2, h3⟩ := en.take e
  obtain ⟨p, vs, rfl, rfl, hl⟩ := h2.ow1
  have hi : i < (ρ.set i .no).length := by rw [List.length_set]; exact (List.getElem?_eq_some_iff.mp e).1
  have e3 := EnX.setC (Lc := [(p, .lst vs)]) (d := .lst l) (v := .ref p) h3 hi ⟨p, vs, [], rfl, rfl, hl.sc hs⟩
  rw [set_self h1, List.set_set] at e3
  exact h M T0 H T σ Dn e3 k
/-- a slot forgotten -/
theorem ws_forget (hi : i < ρ.length) (h : Ws K E t (ρ.set i .no) P) : Ws K E t ρ P := fun M T0 H T σ Dn en k => by
  obtain ⟨x, hx⟩ := get_some (l := σ) (i := i) (by rw [en.len]; exact hi)
  have e2 := en.drop (i := i) (x := x)
  rw [set_self hx] at e2
  exact h M T0 H T σ Dn e2 k
/-- xs.append(e), xs an open list -/
theorem ws_app (e : ρ[i]? = some (.ow l)) (hv : EvD K te ρ d) (hz : l.length < 100000) (h : P.nx (ρ.set i (.ow (l ++ [d])))) : Ws K E (tDrop (tBM K "list" rAppend (tVar i) (tCons te tNil))) ρ P := fun M T0 H T σ Dn en k => by
  obtain ⟨p, vs, h1, h2, h4, _⟩ := en.own e
  refine ⟨.ref p, h1, .inl ⟨rfl, vs, .inl (.inl h2)⟩, hv M T0 H T σ [] _ en fun v H' T' s t' e' iv => ?_⟩
  obtain ⟨p', vs', g1, g2, g4, g5, _⟩ := e'.own e
  rw [h1] at g1
  cases g1
  exact ⟨p, vs', v, rfl, rfl, g2, by rw [g4.len]; exact Nat.lt_of_lt_of_le hz (by decide), k.nx _ _ _ _ h s (g5 _ _ (g4.app (.one iv)))⟩
/-- xs[j] = e, xs an open list -/
theorem ws_setL {j : Nat} {z : Int} (e : ρ[i]? = some (.ow l)) (hv : EvD K te ρ d) (hi : EvD K tb ρ (.int z)) (hj : ixN l.length z = some j) (h : P.nx (ρ.set i (.ow (l.set j d)))) : Ws K E (tAsg te (gSub (tVar i) tb rSetL)) ρ P := fun M T0 H T σ Dn en k =>
  hv M T0 H T σ [] _ en fun v H1 T1 s1 t1 e1 i1 => by
    obtain ⟨p, vs, h1, h2, h4, _⟩ := e1.own e
    refine ⟨.ref p, h1, hi M T0 H1 T1 σ [] _ e1 fun w H2 T2 s2 t2 e2 i2 => ?_⟩
    obtain ⟨p', vs', g1, g2, g4, g5, _⟩ := e2.own e
    rw [h1] at g1
    cases g1
    exact ⟨p, vs', z, j, rfl, i2, g2, by rw [g4.len]; exact hj, k.nx _ _ _ _ h (s1.trans s2) (g5 _ _ (IsL.set (i1.up s2) j g4))⟩
/-- name op= e -/
theorem ws_aug {r : R2} {z : D} (e : ρ[i]? = some (.im x)) (hv : EvD K te ρ y) (hr : RvD K r x y z) (h : P.nx (ρ.set i (.im z))) : Ws K E (tAug i te r) ρ P := fun M T0 H T σ Dn en k => by
  obtain ⟨v, h1, h2⟩ := en.get e
  refine ⟨v, h1, hv M T0 H T σ [] _ en fun w H1 T1 s1 t1 e1 i1 => hr H1 T1 v w _ e1.same (h2.up s1) i1 fun u iu => k.nx _ _ H1 T1 h s1 (e1.set iu)⟩
/-! raising calls -/
def okSl (P : Rho → Prop) (ρ : Rho) (i : Nat) : Sl → Prop
  | .no => False
  | s => P (ρ.set i s)
theorem ws_asgX {Pr : PrD} (ha : EvA K tr ρ ds) (hi : i < ρ.length) (h : Pr ds (okSl P.nx ρ i) (P.ex ρ)) : Ws K E (tAsg (tCallS (spD K Pr) (WE E) tr) (gName i)) ρ P := fun M T0 H T σ Dn en k =>
  ha M T0 H T σ [] _ en fun vs H1 T1 s1 t1 e1 i1 => by
    obtain ⟨L, r, o, f⟩ := e1.ex
    refine ⟨L ++ M, H1, ds, _, _, o, i1, h, fun s v H' T' hs s' t' hr => ?_, fun c ns es od H' T' hz s' t' o' hx => k.ex ρ σ c ns es od H' T' hz (s1.trans s') ⟨⟨L, r.up s', o', f⟩, e1.t0.trans t'⟩ (hx.dn e1.t0)⟩
    cases s with
    | no => exact hs.elim
    | im d =>
      obtain ⟨e2, iz⟩ := e1.ret_im (X := []) r f s' t' hr
      exact k.nx _ _ H' T' hs (s1.trans s') (e2.set iz)
    | ow l =>
      obtain ⟨p, us, rfl, e2, iz⟩ := e1.ret_ow (X := []) r f s' t' hr
      exact k.nx _ _ H' T' hs (s1.trans s') (e2.setO hi iz)
    | cl d =>
      obtain ⟨Lc, e2, iz⟩ := e1.ret_cl (X := []) r f s' t' hr
      exact k.nx _ _ H' T' hs (s1.trans s') (e2.setC hi iz)
theorem ws_dropX {Pr : PrD} (ha : EvA K tr ρ ds) (h : Pr ds (fun s => s ≠ .no → P.nx ρ) (P.ex ρ)) : Ws K E (tDrop (tCallS (spD K Pr) (WE E) tr)) ρ P := fun M T0 H T σ Dn en k =>
  ha M T0 H T σ [] _ en fun vs H1 T1 s1 t1 e1 i1 => by
    obtain ⟨L, r, o, f⟩ := e1.ex
    refine ⟨L ++ M, H1, ds, _, _, o, i1, h, fun s v H' T' hs s' t' hr => ?_, fun c ns es od H' T' hz s' t' o' hx => k.ex ρ σ c ns es od H' T' hz (s1.trans s') ⟨⟨L, r.up s', o', f⟩, e1.t0.trans t'⟩ (hx.dn e1.t0)⟩
    cases s with
    | no => exact hr.elim
    | im d =>
      obtain ⟨e2, iz⟩ := e1.ret_im (X := []) r f s' t' hr
      exact k.nx _ _ H' T' (hs (fun z => by cases z)) (s1.trans s') e2
    | ow l =>
      obtain ⟨p, us, rfl, e2, iz⟩ := e1.ret_ow (X := []) r f s' t' hr
      exact k.nx _ _ H' T' (hs (fun z => by cases z)) (s1.trans s') (e2.sub (List.nil_sublist _))
    | cl d =>
      obtain ⟨Lc, e2, iz⟩ := e1.ret_cl (X := []) r f s' t' hr
      exact k.nx _ _ H' T' (hs (fun z => by cases z)) (s1.trans s') (e2.sub (List.nil_sublist _))
theorem ws_retX {Pr : PrD} (ha : EvA K tr ρ ds) (h : Pr ds P.rt (P.ex ρ)) : Ws K E (tRet (tCallS (spD K Pr) (WE E) tr)) ρ P := fun M T0 H T σ Dn en k =>
  ha M T0 H T σ [] _ en fun vs H1 T1 s1 t1 e1 i1 => by
    obtain ⟨L, r, o, f⟩ := e1.ex
    refine ⟨L ++ M, H1, ds, _, _, o, i1, h, fun s v H' T' hs s' t' hr => ?_, fun c ns es od H' T' hz s' t' o' hx => k.ex ρ σ c ns es od H' T' hz (s1.trans s') ⟨⟨L, r.up s', o', f⟩, e1.t0.trans t'⟩ (hx.dn e1.t0)⟩
    refine k.rt s v H' T' hs (s1.trans s') (e1.t0.trans t') ?_
    cases s with
    | no => exact hr
    | im d => exact ⟨hr.1, hr.2.sub (List.sublist_append_right _ _)⟩
    | ow l =>
      obtain ⟨p, us, rfl, h1, h2, h3⟩ := hr
      exact ⟨p, us, rfl, h1, h2.sub ((List.sublist_append_right _ _).cons_cons _), e1.t0.free h3⟩
    | cl d =>
      obtain ⟨Lc, h1, h2, h3⟩ := hr
      exact ⟨Lc, h1, h2.sub ((List.Sublist.refl Lc).append (List.sublist_append_right _ _)), fun x hx => e1.t0.free (h3 x hx)⟩
/-! what raises -/
theorem ws_asgZ {z : Exn} (h : EvZ K E te ρ z) (hz : P.ex ρ z) : Ws K E (tAsg te g) ρ P := fun M T0 H T σ Dn en k =>
  h M T0 H T σ [] _ en fun od H' T' s' t' e' hx => k.ex ρ σ z.1 z.2.1 z.2.2 od H' T' hz s' e' (hx.dn en.t0)
theorem ws_dropZ {z : Exn} (h : EvZ K E te ρ z) (hz : P.ex ρ z) : Ws K E (tDrop te) ρ P := fun M T0 H T σ Dn en k =>
  h M T0 H T σ [] _ en fun od H' T' s' t' e' hx => k.ex ρ σ z.1 z.2.1 z.2.2 od H' T' hz s' e' (hx.dn en.t0)
theorem ws_retZ {z : Exn} (h : EvZ K E te ρ z) (hz : P.ex ρ z) : Ws K E (tRet te) ρ P := fun M T0 H T σ Dn en k =>
  h M T0 H T σ [] _ en fun od H' T' s' t' e' hx => k.ex ρ σ z.1 z.2.1 z.2.2 od H' T' hz s' e' (hx.dn en.t0)
/-- raise X('m') -/
abbrev tRaise0 (W : L2.WX) (c : Value) : TS := fun _ σ H => W c none σ H
theorem ws_raise0 {c : Value} (hz : P.ex ρ (c, [], [])) : Ws K E (tRaise0 E c) ρ P := fun M T0 H T σ Dn en k =>
  k.ex ρ σ c [] [] none H T hz (Same.refl _) en (.inl ⟨rfl, rfl⟩)
/-- try: .. except x as n: .. -/
theorem ws_try {tb : L2.WX → TS} {ts : Addr → Value → Option Addr → TS} {c : Value} {Pc : Rho → Exn → Prop} (hb : ∀ W, Ws K W (tb W) ρ { P with ex := Pc })
    (hc : ∀ ρ' z, Pc ρ' z → ∃ b, PySem.W.exmOne K z.1 c = some b ∧
      (b = true → ∀ a od, Ws K E (ts a z.1 od) (ρ'.set i (.im (.exc a od z.2.1 z.2.2))) { nx := fun ρ2 => P.nx (ρ2.set i .no), rt := P.rt, bk := fun ρ2 => P.bk (ρ2.set i .no), ct := fun ρ2 => P.ct (ρ2.set i .no) }) ∧ (b = false → P.ex ρ' z)) :
    Ws K E (fun Dn σ H => tb (wAs K c i ts E Dn) Dn σ H) ρ P := fun M T0 H T σ Dn en k =>
  hb _ M T0 H T σ Dn en ⟨k.nx, k.rt, k.bk, k.ct, fun ρ' σ' cl ns es od H' T' hz s' e' hx => by
    obtain ⟨b, h1, h2, h3⟩ := hc ρ' (cl, ns, es) hz
    refine ⟨b, h1, fun hbt a ha => ?_, fun hbf => k.ex ρ' σ' cl ns es od H' T' (h3 hbf) s' e' hx⟩
    have e2 := EnX.set (i := i) (d := .exc a od ns es) (v := .ref a) e' ⟨rfl, hx.is⟩
    refine h2 hbt a od M T0 H' T' _ _ e2 ⟨fun ρ2 σ2 H2 T2 p s2 en2 => k.nx _ _ H2 T2 p (s'.trans s2) en2.drop, fun s v H2 T2 p s2 => k.rt s v H2 T2 p (s'.trans s2), fun ρ2 σ2 H2 T2 p s2 en2 => k.bk _ _ H2 T2 p (s'.trans s2) en2.drop, fun ρ2 σ2 H2 T2 p s2 en2 => k.ct _ _ H2 T2 p (s'.trans s2) en2.drop, fun _ _ _ _ _ _ _ _ hz => hz.elim⟩⟩
/-- what is never reached -/
abbrev tNo : TS := fun _ _ _ => False
end

/-! ### what is walked -/
def Grow (H T H' T' : Hp) : Prop := (H' = H ∧ T' = T) ∨ ∃ a o, T a = none ∧ T' = upd T a o ∧ H' = upd H a o
def JD (K : PySem.W.Frag) (H1 : Hp) (J : It) (l : List D) : Prop := ∀ (i : Nat) (H T : Hp), Same H1 H → Same H T →
  (∀ d, l[i]? = some d → J.go i T ∧ ∀ x T', J.yld i T x T' → ∃ H', Grow H T H' T' ∧ Is K H' d x) ∧ (l.length ≤ i → J.stop i T)
def SrcD (K : PySem.W.Frag) (wi : TI) (ρ : Rho) (l : List D) : Prop := ∀ (M : Op) (T0 H T : Hp) (σ : L2.St) (X : Op) (R : It → Hp → Prop), EnX K M T0 H T σ ρ X → (∀ J H' T', Same H H' → Same T T' → EnX K M T0 H' T' σ ρ X → JD K H' J l → R J T') → wi σ T R
section
variable {K : PySem.W.Frag} {E : L2.WX} {ρ : Rho} {P : Pst} {M X : Op} {T0 H H' T T' : Hp} {σ : L2.St} {Dn : Ends} {te tl : TE} {t u tb : TS} {tt : TT} {d x y : D} {l : List D} {ds : List D} {ta : TA} {g : TG} {i : Nat} {wi : TI}
theorem EnX.grow (h : EnX K M T0 H T σ ρ X) (gr : Grow H T H' T') : Same H H' ∧ Same T T' ∧ EnX K M T0 H' T' σ ρ X := by
  rcases gr with ⟨rfl, rfl⟩ | ⟨a, o, ha, rfl, rfl⟩
  · exact ⟨Same.refl _, Same.refl _, h⟩
  · exact ⟨(h.new ha).1, same_new ha, (h.new ha).2⟩
theorem src_list (h : EvD K tl ρ (.lst l)) : SrcD K (iList K tl) ρ l := fun M T0 H T σ X R e q =>
  h M T0 H T σ X _ e fun v H1 T1 s1 t1 e1 ⟨a, vs, ev, h1, h2⟩ => by
    subst ev
    refine ⟨a, rfl, ⟨vs, .inl (.inl (e1.same _ _ h1))⟩, q _ H1 T1 s1 t1 e1 fun i H2 T2 sa sb => ⟨fun d hd => ?_, fun hl => ⟨vs, .inl (.inl (sb _ _ (sa _ _ h1))), by rw [h2.len]; exact hl⟩⟩⟩
    obtain ⟨v, g1, g2⟩ := h2.get hd
    have hq : SqL K T2 a vs := .inl (.inl (sb _ _ (sa _ _ h1)))
    refine ⟨⟨vs, v, hq, g1⟩, fun x T' ⟨e1, e2⟩ => ⟨H2, .inl ⟨rfl, e1⟩, ?_⟩⟩
    have := e2 vs hq
    rw [g1] at this
    cases this
    exact g2.up sa
theorem src_tup (h : EvD K tl ρ (.tup l)) : SrcD K (iTup K tl) ρ l := fun M T0 H T σ X R e q =>
  h M T0 H T σ X _ e fun v H1 T1 s1 t1 e1 ⟨a, vs, ev, h1, h2⟩ => by
    subst ev
    refine ⟨a, rfl, ⟨vs, same_t e1.same h1⟩, q _ H1 T1 s1 t1 e1 fun i H2 T2 sa sb => ⟨fun d hd => ?_, fun hl => ⟨vs, same_t (sa.trans sb) h1, by rw [h2.len]; exact hl⟩⟩⟩
    obtain ⟨v, g1, g2⟩ := h2.get hd
    have hq : SqT K T2 a vs := same_t (sa.trans sb) h1
    refine ⟨⟨vs, v, hq, g1⟩, fun x T' ⟨e1, e2⟩ => ⟨H2, .inl ⟨rfl, e1⟩, ?_⟩⟩
    have := e2 vs hq
    rw [g1] at this
    cases this
    exact g2.up sa
theorem src_scr {ns : List Int} (h : EvD K tl ρ (.scr ns)) : SrcD K (iList K tl) ρ (ns.map .int) := fun M T0 H T σ X R e q =>
  h M T0 H T σ X _ e fun v H1 T1 s1 t1 e1 ⟨a, ev, h1⟩ => by
    subst ev
    refine ⟨a, rfl, ⟨_, e1.same.seq h1⟩, q _ H1 T1 s1 t1 e1 fun i H2 T2 sa sb => ⟨fun d hd => ?_, fun hl => ⟨_, (sa.trans sb).seq h1, by rw [List.length_map] at hl ⊢; exact hl⟩⟩⟩
    have hq : SqL K T2 a (ns.map V.int) := (sa.trans sb).seq h1
    rw [List.getElem?_map] at hd
    cases hn : ns[i]? with
    | none => rw [hn] at hd; cases hd
    | some n =>
      rw [hn] at hd
      cases hd
      refine ⟨⟨_, .int n, hq, by rw [List.getElem?_map, hn]; rfl⟩, fun x T' ⟨e1, e2⟩ => ⟨H2, .inl ⟨rfl, e1⟩, ?_⟩⟩
      have := e2 _ hq
      rw [List.getElem?_map, hn] at this
      cases this
      exact rfl
/-- lo, lo + 1, .. -/
def rng (lo : Int) (n : Nat) : List D := (List.range n).map fun (k : Nat) => D.int (lo + (k : Int))
theorem rng_len {lo : Int} {n : Nat} : (rng lo n).length = n := by simp [rng]
theorem rng_get {lo : Int} {n i : Nat} {d : D} (h : (rng lo n)[i]? = some d) : i < n ∧ d = .int (lo + (i : Int)) := by
  unfold rng at h
  rw [List.getElem?_map] at h
  by_cases hi : i < n
  · rw [List.getElem?_range hi] at h
    cases h
    exact ⟨hi, rfl⟩
  · rw [List.getElem?_eq_none (by simpa using hi)] at h
    cases h
theorem jd_rng {lo : Int} {n : Nat} : JD K H (Itr lo n) (rng lo n) := fun i H2 T2 sa sb =>
  ⟨fun d hd => ⟨(rng_get hd).1, fun x T' ⟨e1, e2⟩ => ⟨H2, .inl ⟨rfl, e1⟩, by rw [(rng_get hd).2, e2]; exact rfl⟩⟩, fun hl => by rw [rng_len] at hl; exact hl⟩
theorem src_rng1 {n : Int} (h : EvA K ta ρ [.int n]) (hn : -1000000 ≤ n ∧ n ≤ 1000000) : SrcD K (iRng1 ta) ρ (rng 0 n.toNat) := fun M T0 H T σ X R e q =>
  h M T0 H T σ X _ e fun vs H1 T1 s1 t1 e1 hv => by
    obtain ⟨v, rfl, hu⟩ := isL_one hv
    exact ⟨n, by rw [show v = V.int n from hu], by omega, by omega, q _ H1 T1 s1 t1 e1 jd_rng⟩
theorem src_rng2 {lo n : Int} (h : EvA K ta ρ [.int lo, .int n]) (hn : -1000000 ≤ lo ∧ lo ≤ 1000000 ∧ -1000000 ≤ n ∧ n ≤ 1000000) : SrcD K (iRng2 ta) ρ (rng lo (n - lo).toNat) := fun M T0 H T σ X R e q =>
  h M T0 H T σ X _ e fun vs H1 T1 s1 t1 e1 hv => by
    obtain ⟨v, w, rfl, hu, hw⟩ := isL_two hv
    exact ⟨lo, n, by rw [show v = V.int lo from hu, show w = V.int n from hw], ⟨by omega, by omega, by omega, by omega⟩, q _ H1 T1 s1 t1 e1 jd_rng⟩

/-! ### targets -/
def setD (ρ : Rho) : List (Nat × D) → Rho
  | [] => ρ
  | (i, d) :: r => setD (ρ.set i (.im d)) r
def setV (σ : L2.St) : List (Nat × D) → List V → L2.St
  | (i, _) :: r, v :: vs => setV (σ.set i (some v)) r vs
  | _, _ => σ
theorem EnX.setAll : ∀ {as : List (Nat × D)} {vs : List V} {σ : L2.St} {ρ : Rho}, EnX K M T0 H T σ ρ X → IsL K H (as.map (·.2)) vs → EnX K M T0 H T (setV σ as vs) (setD ρ as) X
  | [], vs, σ, ρ, h, _ => by
    cases vs <;> exact h
  | (i, d) :: r, _, σ, ρ, h, ⟨v, vs, e, h1, h2⟩ => by
    rw [e]
    exact EnX.setAll (as := r) (h.set h1) h2
/-- the target takes d apart into these slots -/
def GDs (K : PySem.W.Frag) (g : TG) (d : D) (as : List (Nat × D)) : Prop := ∀ (H T : Hp) (σ : L2.St) (v : V) (Q : L2.St → Hp → Prop), Same H T → Is K H d v → (∀ vs, IsL K H (as.map (·.2)) vs → Q (setV σ as vs) T) → g v σ T Q
theorem gd_name {j : Nat} : GDs K (gName j) d [(j, d)] := fun H T σ v Q s h q => q [v] (.one h)
def GTs (K : PySem.W.Frag) (g : TGs) (ds : List D) (as : List (Nat × D)) : Prop := ∀ (H T : Hp) (σ : L2.St) (vs : List V) (Q : L2.St → Hp → Prop), Same H T → IsL K H ds vs → (∀ us, IsL K H (as.map (·.2)) us → Q (setV σ as us) T) → g vs σ T Q
theorem gt_nil : GTs K gNil [] [] := fun H T σ vs Q s h q => ⟨h, q [] rfl⟩
theorem setV_app : ∀ (as bs : List (Nat × D)) (us ws : List V) (σ : L2.St), us.length = as.length → setV (setV σ as us) bs ws = setV σ (as ++ bs) (us ++ ws)
  | [], bs, [], ws, σ, _ => rfl
  | (i, d) :: r, bs, u :: us, ws, σ, h => setV_app r bs us ws (σ.set i (some u)) (by simpa using h)
  | [], _, _ :: _, _, _, h => by simp at h
  | _ :: _, _, [], _, _, h => by simp at h
theorem gt_cons {g1 : TG} {gr : TGs} {as bs : List (Nat × D)} (h1 : GDs K g1 d as) (h2 : GTs K gr ds bs) : GTs K (gCons g1 gr) (d :: ds) (as ++ bs) := fun H T σ vs Q s ⟨v, r, e, i1, i2⟩ q => by
  refine ⟨v, r, e, h1 H T σ v _ s i1 fun us hu => h2 H T _ r _ s i2 fun ws hw => ?_⟩
  rw [setV_app as bs us ws σ (by rw [hu.len, List.length_map])]
  exact q (us ++ ws) (by rw [List.map_append]; exact hu.app hw)
theorem gd_tup {gr : TGs} {n : Nat} {as : List (Nat × D)} (h : GTs K gr ds as) (hn : ds.length = n) : GDs K (gTup K n gr) (.tup ds) as := fun H T σ v Q s ⟨a, vs, e, h1, h2⟩ q =>
  ⟨a, vs, e, same_t s h1, by rw [h2.len]; exact hn, h H T σ vs Q s h2 q⟩
theorem gd_tup2 {i j : Nat} {d1 d2 : D} : GDs K (gTup K 2 (gCons (gName i) (gCons (gName j) gNil))) (.tup [d1, d2]) [(i, d1), (j, d2)] := gd_tup (gt_cons gd_name (gt_cons gd_name gt_nil)) rfl
theorem gd_tup3 {i j k : Nat} {d1 d2 d3 : D} : GDs K (gTup K 3 (gCons (gName i) (gCons (gName j) (gCons (gName k) gNil)))) (.tup [d1, d2, d3]) [(i, d1), (j, d2), (k, d3)] := gd_tup (gt_cons gd_name (gt_cons gd_name (gt_cons gd_name gt_nil))) rfl
theorem ws_asgG {as : List (Nat × D)} (hv : EvD K te ρ d) (hg : GDs K g d as) (h : P.nx (setD ρ as)) : Ws K E (tAsg te g) ρ P := fun M T0 H T σ Dn e k =>
  hv M T0 H T σ [] _ e fun v H' T' s t' e' iv => hg H' T' σ v _ e'.same iv fun us hu => k.nx _ _ H' T' h s (e'.setAll hu)

/-! ### for -/
theorem ws_for (hs : SrcD K wi ρ l) (Iv : Nat → Rho → Prop) (h0 : Iv 0 ρ)
    (hb : ∀ i d ρ', l[i]? = some d → Iv i ρ' → ∃ as, GDs K g d as ∧ Ws K E tb (setD ρ' as) { P with nx := Iv (i + 1), ct := Iv (i + 1), bk := P.nx })
    (hd : ∀ ρ', Iv l.length ρ' → P.nx ρ') : Ws K E (tFor wi g tb) ρ P := fun M T0 H T σ Dn e k =>
  hs M T0 H T σ [] _ e fun J H1 T1 s1 t1 e1 hj => by
    refine ⟨fun i m σ' T' => m + i = l.length ∧ ∃ H' ρ', Same H1 H' ∧ En K M T0 H' T' σ' ρ' ∧ Iv i ρ', ⟨l.length, by omega, H1, ρ, Same.refl _, e1, h0⟩, ?_⟩
    rintro i m σ' T' ⟨hm, H', ρ', s', e', iv⟩
    obtain ⟨hgo, hstop⟩ := hj i H' T' s' e'.same
    by_cases hi : i < l.length
    · obtain ⟨d, hd1⟩ := get_some hi
      obtain ⟨g1, g2⟩ := hgo d hd1
      refine .inr ⟨g1, fun σ2 T2 => ∃ H2 ρ2, Same H1 H2 ∧ En K M T0 H2 T2 σ2 ρ2 ∧ Iv (i + 1) ρ2, fun σ2 T2 ⟨H2, ρ2, a, b, c⟩ => ⟨m - 1, by omega, by omega, H2, ρ2, a, b, c⟩, fun x T2 hy => ?_⟩
      obtain ⟨H2, gr, ix⟩ := g2 x T2 hy
      obtain ⟨s2, tg, e2⟩ := e'.grow gr
      obtain ⟨as, ga, hw⟩ := hb i d ρ' hd1 iv
      refine ga H2 T2 σ' x _ e2.same ix fun us hu => hw M T0 H2 T2 _ _ (e2.setAll hu) ?_
      have kk := k.up (s1.trans (s'.trans s2))
      exact ⟨fun ρ3 σ3 H3 T3 p s3 e3 => ⟨H3, ρ3, s'.trans (s2.trans s3), e3, p⟩, kk.rt, fun ρ3 σ3 H3 T3 p s3 e3 => kk.nx _ _ _ _ p s3 e3, fun ρ3 σ3 H3 T3 p s3 e3 => ⟨H3, ρ3, s'.trans (s2.trans s3), e3, p⟩, kk.ex⟩
    · have ei : i = l.length := by omega
      subst ei
      exact .inl ⟨hstop (Nat.le_refl _), k.nx _ _ _ _ (hd ρ' iv) (s1.trans s') e'⟩
/-- while, by an invariant with a measure -/
theorem ws_while (Iv : Nat → Rho → Prop) (m0 : Nat) (h0 : Iv m0 ρ)
    (hb : ∀ m ρ', Iv m ρ' → ∃ b, EvT K tt ρ' b ∧ (b = true → Ws K E tb ρ' { P with nx := fun ρ2 => ∃ m', m' < m ∧ Iv m' ρ2, ct := fun ρ2 => ∃ m', m' < m ∧ Iv m' ρ2, bk := P.nx }) ∧ (b = false → P.nx ρ')) : Ws K E (tWhile tt tb) ρ P := fun M T0 H T σ Dn e k => by
  refine ⟨fun m σ' T' => ∃ H' ρ', Same H H' ∧ En K M T0 H' T' σ' ρ' ∧ Iv m ρ', ⟨m0, H, ρ, Same.refl _, e, h0⟩, ?_⟩
  rintro m σ' T' ⟨H', ρ', s', e', iv⟩
  obtain ⟨b, hc, h1, h2⟩ := hb m ρ' iv
  refine hc M T0 H' T' σ' [] _ e' fun H2 T2 s2 t2 e2 => ?_
  cases b with
  | true =>
    refine ⟨fun σ3 T3 => ∃ m', m' < m ∧ ∃ H3 ρ3, Same H H3 ∧ En K M T0 H3 T3 σ3 ρ3 ∧ Iv m' ρ3, fun σ3 T3 ⟨m', hm, z⟩ => ⟨m', hm, z⟩, ?_⟩
    refine h1 rfl M T0 H2 T2 σ' _ e2 ?_
    have kk := k.up (s'.trans s2)
    exact ⟨fun ρ3 σ3 H3 T3 ⟨m', hm, p⟩ s3 e3 => ⟨m', hm, H3, ρ3, s'.trans (s2.trans s3), e3, p⟩, kk.rt, fun ρ3 σ3 H3 T3 p s3 e3 => kk.nx _ _ _ _ p s3 e3, fun ρ3 σ3 H3 T3 ⟨m', hm, p⟩ s3 e3 => ⟨m', hm, H3, ρ3, s'.trans (s2.trans s3), e3, p⟩, kk.ex⟩
  | false =>
    show Dn.nx σ' T2
    exact k.nx _ _ _ _ (h2 rfl) (s'.trans s2) e2

/-! ### comprehensions -/
def wipeD (ρ : Rho) : List Nat → Rho
  | [] => ρ
  | v :: vs => (wipeD ρ vs).set v .no
def isOw : Option Sl → Bool
  | some (.ow _) => true
  | some (.cl _) => true
  | _ => false
theorem EnR.merge : ∀ {ρ ρ2 : Rho} {σ σ2 : L2.St} {L L2 : Op}, EnR K H ρ σ L → Same H H' → EnR K H' ρ2 σ2 L2 → ρ2.length = ρ.length → (∀ i : Nat, (ρ2[i]? = ρ[i]? ∧ σ2[i]? = σ[i]?) ∨ (isOw ρ[i]? = false ∧ isOw ρ2[i]? = false)) → EnR K H' ρ σ L2
  | [], ρ2, σ, σ2, L, L2, h, s, h2, hl, hp => by
    cases h
    have : ρ2 = [] := List.length_eq_zero_iff.mp hl
    subst this
    cases h2
    exact .nil
  | a :: ρ, [], σ, σ2, L, L2, h, s, h2, hl, hp => by simp at hl
  | a :: ρ, b :: ρ2, [], σ2, L, L2, h, s, h2, hl, hp => by cases h
  | a :: ρ, b :: ρ2, x :: σ, [], L, L2, h, s, h2, hl, hp => by cases h2
  | a :: ρ, b :: ρ2, x :: σ, y :: σ2, L, L2, h, s, h2, hl, hp => by
    have hl' : ρ2.length = ρ.length := by simpa using hl
    have tl : ∀ {L L2 : Op}, EnR K H ρ σ L → EnR K H' ρ2 σ2 L2 → EnR K H' ρ σ L2 := fun h h2 => EnR.merge h s h2 hl' fun i => by simpa using hp (i + 1)
    rcases hp 0 with ⟨e1, e2⟩ | ⟨e1, e2⟩
    · have ea : b = a := Option.some.inj e1
      have ex : y = x := Option.some.inj e2
      subst ea ex
      cases h2 with
      | no h2 => cases h with | no h => exact .no (tl h h2)
      | im i2 h2 => cases h with | im _ h => exact .im i2 (tl h h2)
      | ow i2 h2 => cases h with | ow _ h => exact .ow i2 (tl h h2)
      | cl i2 h2 => cases h with | cl _ h => exact .cl i2 (tl h h2)
    · have t2 : ∃ L3, L2 = L3 ∧ EnR K H' ρ2 σ2 L3 := by
        cases h2 with
        | no h2 => exact ⟨_, rfl, h2⟩
        | im i2 h2 => exact ⟨_, rfl, h2⟩
        | ow i2 h2 => cases e2
        | cl i2 h2 => cases e2
      obtain ⟨L3, rfl, h3⟩ := t2
      cases h with
      | no h => exact .no (tl h h3)
      | im ia h => exact .im (ia.up s) (tl h h3)
      | ow ia h => cases e1
      | cl ia h => cases e1
theorem wipeD_len (ρ : Rho) : ∀ vs, (wipeD ρ vs).length = ρ.length
  | [] => rfl
  | v :: vs => by unfold wipeD; rw [List.length_set, wipeD_len ρ vs]
theorem setD_len : ∀ (as : List (Nat × D)) (ρ : Rho), (setD ρ as).length = ρ.length
  | [], _ => rfl
  | (i, d) :: r, ρ => by unfold setD; rw [setD_len r, List.length_set]
theorem wipeD_out {i : Nat} : ∀ {vs : List Nat}, i ∉ vs → (wipeD ρ vs)[i]? = ρ[i]?
  | [], _ => rfl
  | v :: vs, h => by
    have h1 : v ≠ i := fun e => h (by simp [e])
    unfold wipeD
    rw [List.getElem?_set_ne h1]
    exact wipeD_out fun z => h (List.mem_cons_of_mem _ z)
theorem setD_out {i : Nat} : ∀ {as : List (Nat × D)} {ρ : Rho}, i ∉ as.map (·.1) → (setD ρ as)[i]? = ρ[i]?
  | [], _, _ => rfl
  | (j, d) :: r, ρ, h => by
    have h1 : j ≠ i := fun e => h (by simp [e])
    unfold setD
    rw [setD_out (as := r) (fun z => h (by simp [z])), List.getElem?_set_ne h1]
theorem setV_out {i : Nat} : ∀ {as : List (Nat × D)} {us : List V} {σ : L2.St}, i ∉ as.map (·.1) → (setV σ as us)[i]? = σ[i]?
  | [], us, _, _ => by cases us <;> rfl
  | (j, d) :: r, [], _, _ => rfl
  | (j, d) :: r, u :: us, σ, h => by
    have h1 : j ≠ i := fun e => h (by simp [e])
    unfold setV
    rw [setV_out (as := r) (fun z => h (by simp [z])), List.getElem?_set_ne h1]
theorem wipeD_in {i : Nat} : ∀ {vs : List Nat}, i ∈ vs → isOw (wipeD ρ vs)[i]? = false
  | v :: vs, h => by
    unfold wipeD
    by_cases e : v = i
    · subst e
      by_cases hv : v < (wipeD ρ vs).length
      · rw [List.getElem?_set_self hv] <;> rfl
      · rw [List.getElem?_eq_none (by simpa using hv)] <;> rfl
    · rw [List.getElem?_set_ne e]
      exact wipeD_in ((List.mem_cons.mp h).resolve_left fun z => e z.symm)
theorem setD_ow {i : Nat} : ∀ {as : List (Nat × D)} {ρ : Rho}, isOw ρ[i]? = false → isOw (setD ρ as)[i]? = false
  | [], _, h => h
  | (j, d) :: r, ρ, h => by
    unfold setD
    refine setD_ow (as := r) ?_
    by_cases e : j = i
    · subst e
      by_cases hv : j < ρ.length
      · rw [List.getElem?_set_self hv] <;> rfl
      · rw [List.getElem?_eq_none (by simpa using hv)] <;> rfl
    · rw [List.getElem?_set_ne e]
      exact h
theorem wipe_idem (σ : L2.St) : ∀ vs, ∀ i : Nat, (wipe σ vs)[i]? = if i ∈ vs then (σ[i]?).map (fun _ => none) else σ[i]?
  | [], i => by simp [wipe]
  | v :: vs, i => by
    unfold wipe
    by_cases e : v = i
    · subst e
      rw [if_pos List.mem_cons_self, List.getElem?_set_self', wipe_idem σ vs v]
      split <;> (cases σ[v]? <;> rfl)
    · rw [List.getElem?_set_ne e, wipe_idem σ vs i]
      by_cases h : i ∈ vs
      · rw [if_pos h, if_pos (List.mem_cons_of_mem _ h)]
      · rw [if_neg h, if_neg fun z => h ((List.mem_cons.mp z).resolve_left fun q => e q.symm)]
theorem setV_len : ∀ (as : List (Nat × D)) (us : List V) (σ : L2.St), (setV σ as us).length = σ.length
  | [], us, _ => by cases us <;> rfl
  | (i, d) :: r, [], _ => rfl
  | (i, d) :: r, u :: us, σ => by unfold setV; rw [setV_len r, List.length_set]
theorem map_none_eq {a b : Option (Option V)} (h : a.isSome = b.isSome) : a.map (fun _ => (none : Option V)) = b.map fun _ => none := by
  cases a <;> cases b <;> simp_all
theorem wipe_setV {as : List (Nat × D)} {us : List V} {vs : List Nat} (hs : ∀ i ∈ as.map (·.1), i ∈ vs) : wipe (setV (wipe σ vs) as us) vs = wipe σ vs := by
  refine List.ext_getElem? fun i => ?_
  rw [wipe_idem, wipe_idem]
  by_cases h : i ∈ vs
  · rw [if_pos h, if_pos h]
    refine map_none_eq ?_
    have l1 : (setV (wipe σ vs) as us).length = σ.length := by rw [setV_len, wipe_length]
    by_cases hi : i < σ.length
    · rw [List.getElem?_eq_getElem (by omega), List.getElem?_eq_getElem hi] <;> rfl
    · rw [List.getElem?_eq_none (by omega), List.getElem?_eq_none (by omega)]
  · rw [if_neg h, if_neg h, setV_out (fun z => h (hs i z)), wipe_idem, if_neg h]
theorem EnX.wipe {vs : List Nat} (hv : ∀ i ∈ vs, isOw ρ[i]? = false) (h : EnX K M T0 H T σ ρ X) : EnX K M T0 H T (wipe σ vs) (wipeD ρ vs) X := by
  induction vs with
  | nil => exact h
  | cons v vs ih => exact (ih fun i hi => hv i (List.mem_cons_of_mem _ hi)).drop
theorem EnX.unwipe {vs : List Nat} {as : List (Nat × D)} {us : List V} {M' : Op} (hv : ∀ i ∈ vs, isOw ρ[i]? = false) (ha : ∀ i ∈ as.map (·.1), i ∈ vs) (h0 : EnX K M T0 H T σ ρ X) (s : Same H H') {X' : Op} (h : EnX K M T0 H' T' (setV (L2.wipe σ vs) as us) (setD (wipeD ρ vs) as) X') : EnX K M T0 H' T' σ ρ X' := by
  obtain ⟨L, r, q, f⟩ := h0.ex
  obtain ⟨L2, r2, q2, f2⟩ := h.ex
  refine ⟨⟨L2, r.merge s r2 (by rw [setD_len, wipeD_len]) fun i => ?_, q2, f2⟩, h.t0⟩
  by_cases hi : i ∈ vs
  · exact .inr ⟨hv i hi, setD_ow (wipeD_in hi)⟩
  · have hn : i ∉ as.map (·.1) := fun z => hi (ha i z)
    refine .inl ⟨by rw [setD_out hn, wipeD_out hi], by rw [setV_out hn, wipe_idem, if_neg hi]⟩
theorem same_mut {A B : Hp} {p : Addr} {o : HO} (s : Same A B) (h : A p = none) : Same A (upd B p o) := fun b x e => by
  rw [upd_ne (ne_of_none e h)]
  exact s b x e
/-- .. walked by a comprehension: nothing that is open is written meanwhile -/
def JW (K : PySem.W.Frag) (H1 T1 : Hp) (J : It) (l : List D) : Prop := ∀ (i : Nat) (H T : Hp), Same H1 H → Same H T → Same T1 T →
  (∀ d, l[i]? = some d → J.go i T ∧ ∀ x T', J.yld i T x T' → ∃ H', Grow H T H' T' ∧ Is K H' d x) ∧ (l.length ≤ i → J.stop i T)
def SrcW (K : PySem.W.Frag) (wi : TI) (ρ : Rho) (l : List D) : Prop := ∀ (M : Op) (T0 H T : Hp) (σ : L2.St) (X : Op) (R : It → Hp → Prop), EnX K M T0 H T σ ρ X → (∀ J H' T', Same H H' → Same T T' → EnX K M T0 H' T' σ ρ X → JW K H' T' J l → R J T') → wi σ T R
theorem SrcD.w (h : SrcD K wi ρ l) : SrcW K wi ρ l := fun M T0 H T σ X R e q => h M T0 H T σ X R e fun J H' T' s t e' hj => q J H' T' s t e' fun i H2 T2 a b _ => hj i H2 T2 a b
/-- an open list -/
theorem src_own (e : ρ[i]? = some (.ow l)) : SrcW K (iList K (tVar i)) ρ l := fun M T0 H T σ X R en q => by
  obtain ⟨p, vs, h1, h2, h4, _⟩ := en.own e
  refine ⟨.ref p, h1, p, rfl, ⟨vs, .inl (.inl h2)⟩, q _ H T (Same.refl _) (Same.refl _) en fun k H2 T2 sa sb st => ⟨fun d hd => ?_, fun hl => ⟨vs, .inl (.inl (st _ _ h2)), by rw [h4.len]; exact hl⟩⟩⟩
  obtain ⟨v, g1, g2⟩ := h4.get hd
  have hq : SqL K T2 p vs := .inl (.inl (st _ _ h2))
  refine ⟨⟨vs, v, hq, g1⟩, fun x T' ⟨e1, e2⟩ => ⟨H2, .inl ⟨rfl, e1⟩, ?_⟩⟩
  have := e2 vs hq
  rw [g1] at this
  cases this
  exact g2.up sa
theorem evo_lcW {α : Type} {xs : List α} {enc : α → D} {vs : List Nat} (f : α → Bool) (e : α → D) (hs : SrcW K wi ρ (xs.map enc)) (hv : ∀ i ∈ vs, isOw ρ[i]? = false)
    (ht : ∀ d ∈ xs, ∃ as, GDs K g (enc d) as ∧ (∀ i ∈ as.map (·.1), i ∈ vs) ∧ EvT K tt (setD (wipeD ρ vs) as) (f d) ∧ (f d = true → EvD K te (setD (wipeD ρ vs) as) (e d))) (hz : xs.length ≤ 100000) :
    EvO K (tLc wi g tt te vs) ρ ((xs.filter f).map e) := fun M T0 H T σ X Q en q =>
  hs M T0 H T σ X _ en fun J H1 T1 s1 t1 e1 hj D hD => by
    refine ⟨fun i m T' => m + i = xs.length ∧ Same T1 T' ∧ ∃ H' us, Same H1 H' ∧ EnX K M T0 H' T' σ ρ ((D, .lst us) :: X) ∧ IsL K H' (((xs.take i).filter f).map e) us, ⟨xs.length, by omega, same_new hD, H1, [], Same.refl _, e1.opened hD, rfl⟩, ?_⟩
    rintro i m T' ⟨hm, tt1, H', us, s', e', iu⟩
    obtain ⟨hgo, hstop⟩ := hj i H' T' s' e'.same tt1
    by_cases hi : i < xs.length
    · obtain ⟨d, hd1⟩ := get_some hi
      obtain ⟨g1, g2⟩ := hgo (enc d) (by rw [List.getElem?_map, hd1]; rfl)
      refine .inr ⟨g1, fun T2 => Same T1 T2 ∧ ∃ H2 ws, Same H1 H2 ∧ EnX K M T0 H2 T2 σ ρ ((D, .lst ws) :: X) ∧ IsL K H2 (((xs.take (i + 1)).filter f).map e) ws, fun T2 ⟨z, H2, ws, a, b, c⟩ => ⟨m - 1, by omega, by omega, z, H2, ws, a, b, c⟩, fun x T2 hy => ?_⟩
      obtain ⟨H2, gr, ix⟩ := g2 x T2 hy
      obtain ⟨s2, tg, e2⟩ := e'.grow gr
      obtain ⟨as, ga, hsub, hT, hE⟩ := ht d (List.mem_of_getElem? hd1)
      have e3 := e2.wipe hv
      refine ga H2 T2 _ x _ e3.same ix fun ws hw => ⟨wipe_setV hsub, ?_⟩
      have e4 := e3.setAll hw
      have tk : xs.take (i + 1) = xs.take i ++ [d] := by
        rw [List.take_add_one, hd1]
        rfl
      refine hT M T0 H2 T2 _ _ _ e4 fun H5 T5 s5 t5 e5 => ?_
      cases hf : f d with
      | true =>
        refine hE hf M T0 H5 T5 _ _ _ e5 fun v H6 T6 s6 t6 e6 iv => ?_
        have e7 := EnX.unwipe hv hsub e2 (s5.trans s6) (M' := M) e6
        refine ⟨us, e7.at_, ?_, same_mut (tt1.trans (tg.trans (t5.trans t6))) hD, H6, us ++ [v], s'.trans (s2.trans (s5.trans s6)), e7.write, ?_⟩
        · rw [iu.len, List.length_map]
          have h1 : ((xs.take i).filter f).length ≤ (xs.take i).length := List.length_filter_le _ _
          rw [List.length_take] at h1
          have h2 : (100000 : Nat) < sizeLine := by decide
          omega
        · rw [tk, List.filter_append, List.map_append, List.filter_cons, if_pos hf]
          exact (iu.up (s2.trans (s5.trans s6))).app (.one iv)
      | false =>
        show Same T1 T5 ∧ ∃ H2 ws, _
        have e7 := EnX.unwipe hv hsub e2 s5 (M' := M) e5
        refine ⟨tt1.trans (tg.trans t5), H5, us, s'.trans (s2.trans s5), e7, ?_⟩
        rw [tk, List.filter_append, List.map_append, List.filter_cons, if_neg (by rw [hf]; decide)]
        show IsL K H5 (_ ++ []) us
        rw [List.append_nil]
        exact iu.up (s2.trans s5)
    · have ei : i = xs.length := by omega
      subst ei
      rw [List.take_length] at iu
      exact .inl ⟨hstop (by rw [List.length_map]; exact Nat.le_refl _), q D us H' T' (s1.trans s') (t1.trans tt1) e' iu⟩
theorem evo_lc {α : Type} {xs : List α} {enc : α → D} {vs : List Nat} (f : α → Bool) (e : α → D) (hs : SrcD K wi ρ (xs.map enc)) (hv : ∀ i ∈ vs, isOw ρ[i]? = false)
    (ht : ∀ d ∈ xs, ∃ as, GDs K g (enc d) as ∧ (∀ i ∈ as.map (·.1), i ∈ vs) ∧ EvT K tt (setD (wipeD ρ vs) as) (f d) ∧ (f d = true → EvD K te (setD (wipeD ρ vs) as) (e d))) (hz : xs.length ≤ 100000) :
    EvO K (tLc wi g tt te vs) ρ ((xs.filter f).map e) := evo_lcW f e hs.w hv ht hz
theorem evo_mapW {α : Type} {xs : List α} {enc : α → D} {vs : List Nat} (e : α → D) (hs : SrcW K wi ρ (xs.map enc)) (hv : ∀ i ∈ vs, isOw ρ[i]? = false)
    (ht : ∀ d ∈ xs, ∃ as, GDs K g (enc d) as ∧ (∀ i ∈ as.map (·.1), i ∈ vs) ∧ EvD K te (setD (wipeD ρ vs) as) (e d)) (hz : xs.length ≤ 100000) :
    EvO K (tLc wi g tYes te vs) ρ (xs.map e) := by
  have h := evo_lcW (tt := tYes) (te := te) (fun _ => true) e hs hv (fun d hd => by
    obtain ⟨as, a, b, c⟩ := ht d hd
    exact ⟨as, a, b, et_yes, fun _ => c⟩) hz
  have e1 : xs.filter (fun _ => true) = xs := by simp
  rw [e1] at h
  exact h
/-- without a test -/
theorem evo_map {α : Type} {xs : List α} {enc : α → D} {vs : List Nat} (e : α → D) (hs : SrcD K wi ρ (xs.map enc)) (hv : ∀ i ∈ vs, isOw ρ[i]? = false)
    (ht : ∀ d ∈ xs, ∃ as, GDs K g (enc d) as ∧ (∀ i ∈ as.map (·.1), i ∈ vs) ∧ EvD K te (setD (wipeD ρ vs) as) (e d)) (hz : xs.length ≤ 100000) :
    EvO K (tLc wi g tYes te vs) ρ (xs.map e) := by
  have h := evo_lc (tt := tYes) (te := te) (fun _ => true) e hs hv (fun d hd => by
    obtain ⟨as, a, b, c⟩ := ht d hd
    exact ⟨as, a, b, et_yes, fun _ => c⟩) hz
  have e1 : xs.filter (fun _ => true) = xs := by simp
  rw [e1] at h
  exact h

end

section
variable {K : PySem.W.Frag} {ρ : Rho} {te : TE} {tt : TT} {l : List D} {g : TG} {wi : TI}
/-- a comprehension of closed elements -/
theorem ec_lcW {α : Type} {xs : List α} {enc : α → D} {vs : List Nat} (f : α → Bool) (e : α → D) (hs : SrcW K wi ρ (xs.map enc)) (hv : ∀ i ∈ vs, isOw ρ[i]? = false)
    (ht : ∀ d ∈ xs, ∃ as, GDs K g (enc d) as ∧ (∀ i ∈ as.map (·.1), i ∈ vs) ∧ EvT K tt (setD (wipeD ρ vs) as) (f d) ∧ (f d = true → EvC K te (setD (wipeD ρ vs) as) (e d))) (hz : xs.length ≤ 100000) :
    EvC K (tLc wi g tt te vs) ρ (.lst ((xs.filter f).map e)) := fun M T0 H T σ X Q en q =>
  hs M T0 H T σ X _ en fun J H1 T1 s1 t1 e1 hj D hD => by
    refine ⟨fun i m T' => m + i = xs.length ∧ Same T1 T' ∧ ∃ H' us Lc, Same H1 H' ∧ EnX K M T0 H' T' σ ρ ((D, .lst us) :: (Lc ++ X)) ∧ IsCL K H' (((xs.take i).filter f).map e) us Lc, ⟨xs.length, by omega, same_new hD, H1, [], [], Same.refl _, e1.opened hD, rfl, rfl⟩, ?_⟩
    rintro i m T' ⟨hm, tt1, H', us, Lc, s', e', iu⟩
    obtain ⟨hgo, hstop⟩ := hj i H' T' s' e'.same tt1
    by_cases hi : i < xs.length
    · obtain ⟨d, hd1⟩ := get_some hi
      obtain ⟨g1, g2⟩ := hgo (enc d) (by rw [List.getElem?_map, hd1]; rfl)
      refine .inr ⟨g1, fun T2 => Same T1 T2 ∧ ∃ H2 ws Lc, Same H1 H2 ∧ EnX K M T0 H2 T2 σ ρ ((D, .lst ws) :: (Lc ++ X)) ∧ IsCL K H2 (((xs.take (i + 1)).filter f).map e) ws Lc, fun T2 ⟨z, H2, ws, Lc, a, b, c⟩ => ⟨m - 1, by omega, by omega, z, H2, ws, Lc, a, b, c⟩, fun x T2 hy => ?_⟩
      obtain ⟨H2, gr, ix⟩ := g2 x T2 hy
      obtain ⟨s2, tg, e2⟩ := e'.grow gr
      obtain ⟨as, ga, hsub, hT, hE⟩ := ht d (List.mem_of_getElem? hd1)
      have e3 := e2.wipe hv
      refine ga H2 T2 _ x _ e3.same ix fun ws hw => ⟨wipe_setV hsub, ?_⟩
      have e4 := e3.setAll hw
      have tk : xs.take (i + 1) = xs.take i ++ [d] := by
        rw [List.take_add_one, hd1]
        rfl
      refine hT M T0 H2 T2 _ _ _ e4 fun H5 T5 s5 t5 e5 => ?_
      cases hf : f d with
      | true =>
        refine hE hf M T0 H5 T5 _ _ _ e5 fun v L' H6 T6 s6 t6 e6 iv => ?_
        have e7 := EnX.unwipe hv hsub e2 (s5.trans s6) (M' := M) e6
        have pm : List.Perm (L' ++ ((D, HO.lst us) :: (Lc ++ X))) ((D, HO.lst us) :: ((Lc ++ L') ++ X)) := by
          refine List.perm_middle.trans (List.Perm.cons _ ?_)
          rw [← List.append_assoc]
          exact List.perm_append_comm.append_right _
        have e8 := e7.perm pm
        refine ⟨us, e8.at_, ?_, same_mut (tt1.trans (tg.trans (t5.trans t6))) hD, H6, us ++ [v], Lc ++ L', s'.trans (s2.trans (s5.trans s6)), e8.write, ?_⟩
        · rw [iu.len, List.length_map]
          have h1 : ((xs.take i).filter f).length ≤ (xs.take i).length := List.length_filter_le _ _
          rw [List.length_take] at h1
          have h2 : (100000 : Nat) < sizeLine := by decide
          omega
        · rw [tk, List.filter_append, List.map_append, List.filter_cons, if_pos hf]
          exact (iu.up (s2.trans (s5.trans s6))).app (.one iv)
      | false =>
        show Same T1 T5 ∧ ∃ H2 ws Lc, _
        have e7 := EnX.unwipe hv hsub e2 s5 (M' := M) e5
        refine ⟨tt1.trans (tg.trans t5), H5, us, Lc, s'.trans (s2.trans s5), e7, ?_⟩
        rw [tk, List.filter_append, List.map_append, List.filter_cons, if_neg (by rw [hf]; decide)]
        show IsCL K H5 (_ ++ []) us Lc
        rw [List.append_nil]
        exact iu.up (s2.trans s5)
    · have ei : i = xs.length := by omega
      subst ei
      rw [List.take_length] at iu
      exact .inl ⟨hstop (by rw [List.length_map]; exact Nat.le_refl _), q (.ref D) ((D, .lst us) :: Lc) H' T' (s1.trans s') (t1.trans tt1) e' ⟨D, us, Lc, rfl, rfl, iu⟩⟩
theorem ec_lc {α : Type} {xs : List α} {enc : α → D} {vs : List Nat} (f : α → Bool) (e : α → D) (hs : SrcD K wi ρ (xs.map enc)) (hv : ∀ i ∈ vs, isOw ρ[i]? = false)
    (ht : ∀ d ∈ xs, ∃ as, GDs K g (enc d) as ∧ (∀ i ∈ as.map (·.1), i ∈ vs) ∧ EvT K tt (setD (wipeD ρ vs) as) (f d) ∧ (f d = true → EvC K te (setD (wipeD ρ vs) as) (e d))) (hz : xs.length ≤ 100000) :
    EvC K (tLc wi g tt te vs) ρ (.lst ((xs.filter f).map e)) := ec_lcW f e hs.w hv ht hz
theorem ec_map {α : Type} {xs : List α} {enc : α → D} {vs : List Nat} (e : α → D) (hs : SrcD K wi ρ (xs.map enc)) (hv : ∀ i ∈ vs, isOw ρ[i]? = false)
    (ht : ∀ d ∈ xs, ∃ as, GDs K g (enc d) as ∧ (∀ i ∈ as.map (·.1), i ∈ vs) ∧ EvC K te (setD (wipeD ρ vs) as) (e d)) (hz : xs.length ≤ 100000) :
    EvC K (tLc wi g tYes te vs) ρ (.lst (xs.map e)) := by
  have h := ec_lc (tt := tYes) (te := te) (fun _ => true) e hs hv (fun d hd => by
    obtain ⟨as, a, b, c⟩ := ht d hd
    exact ⟨as, a, b, et_yes, fun _ => c⟩) hz
  have e1 : xs.filter (fun _ => true) = xs := by simp
  rw [e1] at h
  exact h

end

/-! ### a def -/
/-- a def's wish about what it raises -/
abbrev upX (E : XK) : L2.WX := fun c od _ T => E c od T
section
variable {K : PySem.W.Frag} {P : PrD} {vs : List V} {T : Hp} {Q : VK} {E : XK} {t : TS} {N : List Str}
theorem read_fn (h : spD K P vs T Q E) (hw : ∀ ds R Z, P ds R Z → Ws K (upX E) t (ds.map .im ++ List.replicate (N.length - ds.length) .no) { nx := fun _ => R (.im .non), rt := R, ex := fun _ => Z }) :
    t { nx := fun _ H' => Q .non H', rt := Q } (L2.start N vs) T := by
  obtain ⟨M, H, ds, R, Z, o, hd, p, k1, k2⟩ := h
  have r := EnR.start hd (N.length - ds.length)
  have e : L2.start N vs = vs.map some ++ List.replicate (N.length - ds.length) none := by unfold L2.start; rw [hd.len]
  rw [e]
  refine hw ds R Z p M T H T _ _ ⟨⟨[], r, o, fun _ h => (nomatch h)⟩, Same.refl _⟩ ⟨fun ρ' σ' H' T' q s e' => k1 (.im .non) .non H' T' q s e'.t0 ⟨rfl, e'.frame⟩, fun s v H' T' q s' t' hr => k1 s v H' T' q s' t' hr, fun _ _ _ _ q => q.elim, fun _ _ _ _ q => q.elim, fun ρ' σ' c ns es od H' T' q s' e' hx => k2 c ns es od H' T' q s' e'.t0 e'.frame hx⟩
theorem len_fn {n : Nat} (hl : ∀ ds R Z, P ds R Z → ds.length = n) (h : spD K P vs T Q E) : vs.length = n := by
  obtain ⟨M, H, ds, R, Z, o, hd, p, _⟩ := h
  rw [hd.len]
  exact hl ds R Z p
end
end FS
set_option Elab.async false
set_option linter.all false
set_option maxRecDepth 100000
set_option maxHeartbeats 4000000
namespace FS
open PySem PySem.Spec PyProof.Rows L2

/-! ### operators, by what comes in -/
section
variable {X : Cx}
abbrev rStrCat : R2 := fun x y H Q => ∃ i j, x = .str i ∧ y = .str j ∧ i.length + j.length ≤ sizeLine ∧ Q (.str (i ++ j)) H
def rAddA (K : PySem.W.Frag) : R2 := fun x y H Q => rI0 (fun i j => .int (i + j)) x y H Q ∨ rCat x y H Q ∨ rStrCat x y H Q ∨ rCatT K x y H Q
theorem opAdd : OpR X (binaryOp .Add) (rAddA X.K) := op_add.or (op_cat.or (OpR.or op_add_str op_catT))
def rMulA : R2 := fun x y H Q => rI CMul (fun i j => .int (i * j)) x y H Q ∨ rI CMulW (fun i j => .int (i * j)) x y H Q ∨ rRep x y H Q
theorem opMul : OpR X (binaryOp .Mult) rMulA := op_mul.or (op_mulW.or op_rep)
def rSubA : R2 := rI0 fun i j => .int (i - j)
theorem opSub : OpR X (binaryOp .Sub) rSubA := op_sub
def rDivA : R2 := rI CDivW fun i j => .int (i / j)
theorem opDiv : OpR X (binaryOp .FloorDiv) rDivA := op_fdivW
def rModA : R2 := rI (fun _ j => 0 < j) fun i j => .int (i % j)
theorem opMod : OpR X (binaryOp .Mod) rModA := op_mod
def rPowA : R2 := rI CPow fun i j => .int (i ^ j.toNat)
theorem opPow : OpR X (binaryOp .Pow) rPowA := op_pow
def rLtA : R2 := rI0 fun i j => .bl (decide (i < j))
def rLeA : R2 := rI0 fun i j => .bl (decide (i ≤ j))
def rGtA : R2 := rI0 fun i j => .bl (decide (j < i))
def rGeA : R2 := rI0 fun i j => .bl (decide (j ≤ i))
theorem opLt : OpR X (compareOp .Lt) rLtA := op_lt
theorem opLe : OpR X (compareOp .LtE) rLeA := op_le
theorem opGt : OpR X (compareOp .Gt) rGtA := op_gt
theorem opGe : OpR X (compareOp .GtE) rGeA := op_ge
def rEqA (K : PySem.W.Frag) : R2 := fun x y H Q => rEq x y H Q ∨ rEqD K x y H Q
def rNeA (K : PySem.W.Frag) : R2 := fun x y H Q => rNe x y H Q ∨ rNeD K x y H Q
theorem opEq (hu : X.A.units + 64 < cLine) : OpR X (compareOp .Eq) (rEqA X.K) := op_eq.or (op_eqD hu)
theorem opNe (hu : X.A.units + 64 < cLine) : OpR X (compareOp .NotEq) (rNeA X.K) := op_ne.or (op_neD hu)
def rIsN : R2 := fun x y H Q => y = .non ∧ Q (.bl (decide (x = .non))) H
def rNotN : R2 := fun x y H Q => y = .non ∧ Q (.bl (!decide (x = .non))) H
theorem opIsN : OpR X (compareOp .Is) rIsN := op_isN
theorem opNotN : OpR X (compareOp .IsNot) rNotN := op_notN
def rNegA : V → Hp → VK → Prop := rU fun i => .int (-i)
theorem unNeg : UnR X (unaryOp .USub) rNegA := un_neg
def rLenS : List V → Hp → VK → Prop := fun xs H Q => ∃ z, xs = [.str z] ∧ z.length ≤ sizeLine ∧ Q (.int z.length) H
def rLenA (K : PySem.W.Frag) : List V → Hp → VK → Prop := fun xs H Q => rLen K xs H Q ∨ rLenS xs H Q
theorem cLen : CallR X (.builtin "len") (rLenA X.K) := call_len_seq.or call_len_str
def rIntA : List V → Hp → VK → Prop := fun xs H Q => (∃ i, xs = [.int i] ∧ Q (.int i) H) ∨ ∃ k, xs = [.bl k] ∧ Q (.int (if k then 1 else 0)) H
theorem cInt : CallR X (.type "int") rIntA := call_int1
def rAbsA : List V → Hp → VK → Prop := fun xs H Q => ∃ i, xs = [.int i] ∧ Q (.int (if i < 0 then -i else i)) H
theorem cAbs : CallR X (.builtin "abs") rAbsA := call_abs
def rListA (K : PySem.W.Frag) : List V → Hp → VK → Prop := fun xs H Q => ∃ p ys, xs = [.ref p] ∧ (SqL K H p ys ∨ SqT K H p ys) ∧ ∀ l, H l = none → Q (.ref l) (upd H l (.lst ys))
theorem cList : CallR X (.type "list") (rListA X.K) := call_list_of
/-- math.lcm, of numbers of at most 13500 bits -/
def CLcm (a b : Int) : Prop := 0 < a ∧ 0 < b ∧ a < 2 ^ 13499 ∧ b < 2 ^ 13499
def rLcmA : List V → Hp → VK → Prop := fun vs H Q => ∃ a b : Int, vs = [.int a, .int b] ∧ CLcm a b ∧ Q (.int ((Nat.lcm a.natAbs b.natAbs : Nat) : Int)) H
theorem lcm_small {a b : Nat} (ha : a < 2 ^ 13499) (hb : b < 2 ^ 13499) : (Nat.lcm a b).log2 < bitsLine := by
  have h1 : Nat.lcm a b ≤ a * b := by
    unfold Nat.lcm
    exact Nat.div_le_self _ _
  have h2 : a * b < 2 ^ 26998 := by
    have : a * b < 2 ^ 13499 * 2 ^ 13499 := Nat.mul_lt_mul'' ha hb
    rw [← Nat.pow_add] at this
    exact this
  have h3 : bitsLine = 134217728 := by decide
  by_cases h0 : Nat.lcm a b = 0
  · rw [h0, Nat.log2_zero, h3]
    decide
  · have := (Nat.log2_lt h0).mpr (Nat.lt_of_le_of_lt h1 h2)
    rw [h3]
    omega
theorem log_small {a : Nat} (ha : a < 2 ^ 13499) : ¬ a.log2 / 30 + 1 > 450 := by
  by_cases h0 : a = 0
  · subst h0
    rw [Nat.log2_zero]
    decide
  · have := (Nat.log2_lt h0).mpr ha
    omega
theorem cLcm : CallR X (.builtin "math.lcm") rLcmA := by
  intro pins s σ H vs us Q I r h
  obtain ⟨a, b, rfl, ⟨h1, h2, h3, h4⟩, q⟩ := h
  obtain ⟨t, u, rfl⟩ := Vals.int2 r
  have ha : a.natAbs < 2 ^ 13499 := by
    have : (a.natAbs : Int) < ((2 ^ 13499 : Nat) : Int) := by
      rw [Int.natAbs_of_nonneg (by omega)]
      exact_mod_cast h3
    exact_mod_cast this
  have hb : b.natAbs < 2 ^ 13499 := by
    have : (b.natAbs : Int) < ((2 ^ 13499 : Nat) : Int) := by
      rw [Int.natAbs_of_nonneg (by omega)]
      exact_mod_cast h4
    exact_mod_cast this
  have p1 : 1 ≤ a.natAbs := by omega
  have p2 : 1 ≤ b.natAbs := by omega
  have e1 : Nat.lcm 1 a.natAbs = a.natAbs := Nat.lcm_one_left _
  have m1 : max 1 a.natAbs = a.natAbs := Nat.max_eq_right p1
  have g := PySem.W.mg_run_lcm a t b u (by rw [m1]; exact log_small ha)
    (log_small (by rcases Nat.le_total a.natAbs b.natAbs with z | z; · rw [Nat.max_eq_right z]; exact hb
                   · rw [Nat.max_eq_left z]; exact ha))
    (by rw [e1, Int.natAbs_natCast]; exact lcm_small ha hb)
  rw [e1] at g
  exact PySem.call_function_meets PySem.W.MGF.kind_lcm PySem.W.MGF.plain_lcm PySem.W.MGF.entry_lcm (PySem.W.MGF.args_lcm _ _) g.meets ⟨.int _, H, I.tok _, ⟨_, rfl⟩, q⟩
end

section
variable {K : PySem.W.Frag} {ρ : Rho} {x y z d : D} {l l' : List D}
theorem rv_add {i j : Int} : RvD K (rAddA K) (.int i) (.int j) (.int (i + j)) := fun H T vx vy Q s h1 h2 q => .inl (rv_I0 (g := fun i j => V.int (i + j)) (z := .int (i + j)) (fun _ => rfl) H T vx vy Q s h1 h2 q)
theorem rvo_add (hz : l.length + l'.length ≤ 100000) : RvO K (rAddA K) (.lst l) (.lst l') (l ++ l') := fun H T vx vy Q s h1 h2 q => .inr (.inl (rvo_cat hz H T vx vy Q s h1 h2 q))
theorem rv_addS {i j : Str} (hz : i.length + j.length ≤ 10000000) : RvD K (rAddA K) (.str i) (.str j) (.str (i ++ j)) := fun H T vx vy Q s h1 h2 q =>
  .inr (.inr (.inl ⟨i, j, h1, h2, Nat.le_trans hz (by decide), q _ rfl⟩))
theorem rv_sub {i j : Int} : RvD K rSubA (.int i) (.int j) (.int (i - j)) := rv_I0 fun _ => rfl
theorem rv_mul {i j : Int} (h : CMul i j) : RvD K rMulA (.int i) (.int j) (.int (i * j)) := fun H T vx vy Q s h1 h2 q => .inl (rv_I (g := fun i j => V.int (i * j)) (z := .int (i * j)) h (fun _ => rfl) H T vx vy Q s h1 h2 q)
theorem rv_mulW {i j : Int} (h : CMulW i j) : RvD K rMulA (.int i) (.int j) (.int (i * j)) := fun H T vx vy Q s h1 h2 q => .inr (.inl (rv_I (g := fun i j => V.int (i * j)) (z := .int (i * j)) h (fun _ => rfl) H T vx vy Q s h1 h2 q))
theorem rvo_mul {k : Int} (h1 : -(2 ^ 63) ≤ k ∧ k < 2 ^ 63) (hz : l.length * k.toNat ≤ 100000) : RvO K rMulA (.lst l) (.int k) (List.replicate k.toNat l).flatten := fun H T vx vy Q s g1 g2 q => .inr (.inr (rvo_rep h1 hz H T vx vy Q s g1 g2 q))
theorem rv_div {i j : Int} (h : CDivW i j) : RvD K rDivA (.int i) (.int j) (.int (i / j)) := rv_I h fun _ => rfl
theorem rv_mod {i j : Int} (h : 0 < j) : RvD K rModA (.int i) (.int j) (.int (i % j)) := rv_I h fun _ => rfl
theorem rv_pow {i j z : Int} (h : CPow i j) (e : i ^ j.toNat = z) : RvD K rPowA (.int i) (.int j) (.int z) := e ▸ rv_I h fun _ => rfl
theorem rv_lt {i j : Int} : RvD K rLtA (.int i) (.int j) (.bl (decide (i < j))) := rv_I0 fun _ => rfl
theorem rv_le {i j : Int} : RvD K rLeA (.int i) (.int j) (.bl (decide (i ≤ j))) := rv_I0 fun _ => rfl
theorem rv_gt {i j : Int} : RvD K rGtA (.int i) (.int j) (.bl (decide (j < i))) := rv_I0 fun _ => rfl
theorem rv_ge {i j : Int} : RvD K rGeA (.int i) (.int j) (.bl (decide (j ≤ i))) := rv_I0 fun _ => rfl
theorem rv_eq {i j : Int} : RvD K (rEqA K) (.int i) (.int j) (.bl (decide (i = j))) := fun H T vx vy Q s h1 h2 q => .inl (rv_eqI H T vx vy Q s h1 h2 q)
theorem rv_ne {i j : Int} : RvD K (rNeA K) (.int i) (.int j) (.bl (!decide (i = j))) := fun H T vx vy Q s h1 h2 q => .inl (rv_neI H T vx vy Q s h1 h2 q)
theorem rv_eqStr {i j : Str} : RvD K (rEqA K) (.str i) (.str j) (.bl (decide (i = j))) := fun H T vx vy Q s h1 h2 q => .inl (rv_eqS H T vx vy Q s h1 h2 q)
theorem rv_neStr {i j : Str} : RvD K (rNeA K) (.str i) (.str j) (.bl (!decide (i = j))) := fun H T vx vy Q s h1 h2 q => .inl (rv_neS H T vx vy Q s h1 h2 q)
theorem rv_is : RvD K rIsN x .non (.bl (isNon x)) := rv_isN
theorem rv_isnot : RvD K rNotN x .non (.bl (!isNon x)) := rv_notN
theorem ru_neg {i : Int} : RuD K rNegA (.int i) (.int (-i)) := ru_I fun _ => rfl
theorem rc_len : RcD K (rLenA K) [.lst l] (.int (l.length : Int)) := fun H T vs Q s h q => .inl (rc_lenL H T vs Q s h q)
theorem rc_lent : RcD K (rLenA K) [.tup l] (.int (l.length : Int)) := fun H T vs Q s h q => .inl (rc_lenT H T vs Q s h q)
theorem rc_lenc {ns : List Int} : RcD K (rLenA K) [.scr ns] (.int (ns.length : Int)) := fun H T vs Q s h q => .inl (rc_lenC H T vs Q s h q)
theorem rc_lens {t : Str} (h : t.length ≤ 10000000) : RcD K (rLenA K) [.str t] (.int (t.length : Int)) := fun H T vs Q s i q => by
  obtain ⟨v, rfl, hv⟩ := isL_one i
  exact .inr ⟨t, by rw [show v = V.str t from hv], Nat.le_trans h (by decide), q _ rfl⟩
theorem ev_lenOw {i : Nat} (e : ρ[i]? = some (.ow l)) : EvD K (tCB (rLenA K) (tCons (tVar i) tNil)) ρ (.int (l.length : Int)) := fun M T0 H T σ X Q h q => by
  obtain ⟨p, vs, h1, h2, h4, _⟩ := h.own e
  exact ⟨.ref p, h1, .inl ⟨p, vs, rfl, .inl (.inl (.inl h2)), q _ H T (Same.refl _) (Same.refl _) h (by rw [h4.len]; exact (rfl : V.int _ = V.int _))⟩⟩
theorem rc_toint {i : Int} : RcD K rIntA [.int i] (.int i) := rc_int
theorem rc_tointB {b : Bool} : RcD K rIntA [.bl b] (.int (if b then 1 else 0)) := rc_intB
theorem rc_absv {i : Int} : RcD K rAbsA [.int i] (.int (i.natAbs : Int)) := rc_abs
theorem rc_lcm {a b : Int} (h : CLcm a b) : RcD K rLcmA [.int a, .int b] (.int ((Nat.lcm a.natAbs b.natAbs : Nat) : Int)) := fun H T vs Q s i q => by
  obtain ⟨v, w, rfl, hv, hw⟩ := isL_two i
  exact ⟨a, b, by rw [show v = V.int a from hv, show w = V.int b from hw], h, q _ rfl⟩
theorem rco_list : RcO K (rListA K) [.lst l] l := rc_list
theorem rco_listT : RcO K (rListA K) [.tup l] l := rc_listT
end

/-! ### a def that stands -/
structure FnG (P : Program) (w : World) (K : PySem.W.Frag) (mg : Str → Option Value) (base : Heap) (CX : CXT) (k : Nat) (x : Str) (ps : List Str) (sp : Sp) : Prop where
  ex : ∃ f fd, FnOk P w K mg base CX k f fd ps sp ∧ mg x = some (.ref f) ∧ PySem.W.keepIn K (.ref f) = true ∧ Binds K fd ps []
section
variable {X : Cx} {CX : CXT} {k : Nat} {sp : Sp} {E : XK} {x : Str} {e : Expr} {es : List Expr} {t : TA} {p pos : Pos} {ps : List Str}
theorem pe_g (G : FnG X.prog X.w X.K X.mg X.base CX k x ps sp) (hr : Room k X.A) (hx : Passes CX X E) (ha : PA X (e :: es) t) (hg : Gl X x := by rfl) (hdb : (x == ("__debug__" : Str)) = false := by decide)
    (he : starEach (e :: es) X.env = (false, eval e X.env) :: starEach es X.env := by rfl) (hpl : (backTo pos (starEach es X.env)).any (·.1) = false := by rfl) : PE X (.Call (.Name x p) (e :: es) [] pos) (tCall sp [] E t) := by
  obtain ⟨f, fd, F, hm, hk, hb⟩ := G.ex
  exact pe_call F hr hg hm hk hb .nil hx ha hdb he hpl
end
section
variable {P : Program} {w : World} {K : PySem.W.Frag} {mg : Str → Option Value} {base : Heap} {x qual : Str} {st : Stmt} {f : Addr} {fd : FuncData} {N ps : List Str} {k : Nat} {Pr : PrD}
/-- a def of the text, its facts behind the top -/
structure Df (K : PySem.W.Frag) (mg : Str → Option Value) (x : Str) (st : Stmt) (ps : List Str) : Prop where
  ex : ∃ f fd, Fun K x x st f fd ∧ mg x = some (.ref f) ∧ Binds K fd ps []
theorem Df.ok (F : Df K mg x st ps) (S : FnScope N ps (defScope st)) (len : ∀ ds R Z, Pr ds R Z → ds.length = ps.length)
    (hbody : ∀ (f : Addr) (cdv : Value) (A : Around) (outer : List Env) (s : Shared) (H : Hp) (E : XK), Room k (A.deeper (envOfC x (defScope st) s.heap.objs.size f cdv)) →
      ∃ t, PSs (cxOf CX0 P w K mg base N x (defScope st) f cdv A outer s H E).nox (defBody st) t ∧ ∀ ds R Z, Pr ds R Z → Ws K (upX E) t (ds.map .im ++ List.replicate (N.length - ds.length) .no) { nx := fun _ => R (.im .non), rt := R, ex := fun _ => Z }) :
    FnG P w K mg base CX0 (k + 1) x ps (spD K Pr) := by
  obtain ⟨f, fd, F, hm, hb⟩ := F.ex
  refine ⟨f, fd, F.ok S (fun vs H Q E h => len_fn len h) (fun cdv A outer s H vs Q E hr h => ?_), hm, F.kp, hb⟩
  obtain ⟨t, h1, h2⟩ := hbody f cdv A outer s H E hr
  exact ⟨t, h1, read_fn h h2⟩
theorem Df.okX (F : Df K mg x st ps) (S : FnScope N ps (defScope st)) (len : ∀ ds R Z, Pr ds R Z → ds.length = ps.length)
    (hbody : ∀ (f : Addr) (cdv : Value) (A : Around) (outer : List Env) (s : Shared) (H : Hp) (E : XK), Room k (A.deeper (envOfC x (defScope st) s.heap.objs.size f cdv)) →
      ∃ t, PSs (cxOf (L2.CX P w) P w K mg base N x (defScope st) f cdv A outer s H E) (defBody st) t ∧ ∀ ds R Z, Pr ds R Z → Ws K (upX E) t (ds.map .im ++ List.replicate (N.length - ds.length) .no) { nx := fun _ => R (.im .non), rt := R, ex := fun _ => Z }) :
    FnG P w K mg base (L2.CX P w) (k + 1) x ps (spD K Pr) := by
  obtain ⟨f, fd, F, hm, hb⟩ := F.ex
  refine ⟨f, fd, F.okX S (fun vs H Q E h => len_fn len h) (fun cdv A outer s H vs Q E hr h => ?_), hm, F.kp, hb⟩
  obtain ⟨t, h1, h2⟩ := hbody f cdv A outer s H E hr
  exact ⟨t, h1, read_fn h h2⟩
end

/-! ### short words for derivations; the written part is named, so that it may stand under a comprehension's binder -/
section
variable {X : Cx} (K : PySem.W.Frag)
theorem kAdd (hK : X.K = K := by rfl) : OpR X (binaryOp .Add) (rAddA K) := hK ▸ opAdd
theorem kEq (hu : X.A.units + 64 < cLine) (hK : X.K = K := by rfl) : OpR X (compareOp .Eq) (rEqA K) := hK ▸ opEq hu
theorem kNe (hu : X.A.units + 64 < cLine) (hK : X.K = K := by rfl) : OpR X (compareOp .NotEq) (rNeA K) := hK ▸ opNe hu
theorem kLen (hK : X.K = K := by rfl) : CallR X (.builtin "len") (rLenA K) := hK ▸ cLen
theorem kList (hK : X.K = K := by rfl) : CallR X (.type "list") (rListA K) := hK ▸ cList
theorem kIsi (hK : X.K = K := by rfl) : CallR X (.builtin "isinstance") (rIsi K) := hK ▸ call_isi
theorem kIn (hK : X.K = K := by rfl) : OpR X (compareOp .In) (rIn K false) := hK ▸ op_in_seq
theorem kNotIn (hK : X.K = K := by rfl) : OpR X (compareOp .NotIn) (rIn K true) := hK ▸ op_notIn_seq
theorem kIx (hK : X.K = K := by rfl) : IxR X (rIx K) := hK ▸ ix_seq
theorem ix {a b : Expr} {ta tb : TE} {pos : Pos} (ha : PE X a ta) (hb : PE X b tb) (hK : X.K = K := by rfl) (hs : PlainIx b := by exact fun _ _ => rfl) : PE X (.Subscript a b pos) (tOp (rIx K) ta tb) := pe_ix (kIx K hK) ha hb hs
theorem pl {tg l : Expr} {tl : TE} (hl : PE X l tl) (hK : X.K = K := by rfl) : PI X tg l (iList K tl) := hK ▸ pi_list hl
theorem pt {tg l : Expr} {tl : TE} (hl : PE X l tl) (hK : X.K = K := by rfl) : PI X tg l (iTup K tl) := hK ▸ pi_tup hl
theorem gt {es : List Expr} {k : Nat} {pos : Pos} {t : TGs} {n : Nat} (hc : X.calm = true) (h : PGs X es t) (hK : X.K = K := by rfl) (hn : (assignEach es X.env).length = n := by rfl) (hst : (assignEach es X.env).findIdx? (·.1) = none := by rfl) : PG X (.Tuple es k pos) (gTup K n t) := hK ▸ pg_tup hc h hn hst
theorem ml_append {o e : Expr} {to : TE} {ta : TA} {apos cpos : Pos} (ho : PE X o to) (ha : PA X [e] ta) (hK : X.K = K := by rfl) (hbase : attributeBase o "append" X.env (eval o X.env) = eval o X.env := by rfl)
    (hfew : ((backTo cpos (starEach [e] X.env)).all (fun x => !x.1) && (backToKw cpos (keywordEach [] X.env)).all (fun x => x.1.isSome)
      && decide ([e].length + ([] : List Keyword).length + (if ([] : List Keyword).isEmpty then 0 else 1) < 30)) = true := by rfl)
    (hline : (apos.endLine == cpos.line) = true := by rfl) (hs : starEach [e] X.env = (false, eval e X.env) :: starEach [] X.env := by rfl) (hplain : (backTo cpos (starEach [] X.env)).any (·.1) = false := by rfl) :
    PE X (.Call (.Attribute o "append" apos) [e] [] cpos) (tBM K "list" rAppend to ta) := hK ▸ pe_bm PySem.F.plainAttrs_list PySem.F.slot_list_append PySem.F.type_list_append mt_append ho ha hbase hfew hline hs hplain
end
section
variable {X : Cx}
theorem sv (i : Nat) {x : Str} {e : Expr} {te : TE} {pos pos' : Pos} (hN : X.N.Nodup) (he : PE X e te) (hi : X.N[i]? = some x := by rfl) (hx : Loc X.env.scope x := by first | exact Or.inl rfl | exact Or.inr rfl) (hs : swapsWith e (some (.Name x pos')) pos.line X.env = pure false := by rfl) (hf : X.fn x = true ∨ X.env.scope.names.lookup x = some .local := by first | exact .inl rfl | exact .inr rfl) :
    PS X (.Assign [.Name x pos'] e pos) (tAsg te (gName i)) := ps_set hN hi hx he hs hf
theorem gn (i : Nat) {x : Str} {pos : Pos} (hN : X.N.Nodup) (hi : X.N[i]? = some x := by rfl) (hx : Loc X.env.scope x := by first | exact Or.inl rfl | exact Or.inr rfl) (hf : X.fn x = true ∨ X.env.scope.names.lookup x = some .local := by first | exact .inl rfl | exact .inr rfl) : PG X (.Name x pos) (gName i) := pg_name hN hi hx hf
theorem cb {x : Str} {e : Expr} {es : List Expr} {t : TA} {id : String} {r : List V → Hp → VK → Prop} {p pos : Pos} (hc : CallR X (.builtin id) r) (hm : X.mg x = none) (ha : PA X (e :: es) t) (hg : Gl X x := by rfl) (hv : bootBuiltins x = some (.builtin id) := by decide +kernel) (hn : x ≠ "__name__" := by decide) (hdb : (x == ("__debug__" : Str)) = false := by decide)
    (he : starEach (e :: es) X.env = (false, eval e X.env) :: starEach es X.env := by rfl) (hpl : (backTo pos (starEach es X.env)).any (·.1) = false := by rfl) : PE X (.Call (.Name x p) (e :: es) [] pos) (tCB r t) := pe_callB hc hg hm hv ha hn hdb he hpl
theorem ct {x : Str} {e : Expr} {es : List Expr} {t : TA} {T : String} {r : List V → Hp → VK → Prop} {p pos : Pos} (hc : CallR X (.type T) r) (hm : X.mg x = none) (ha : PA X (e :: es) t) (hg : Gl X x := by rfl) (hv : bootBuiltins x = some (.type T) := by decide +kernel) (hn : x ≠ "__name__" := by decide) (hdb : (x == ("__debug__" : Str)) = false := by decide)
    (he : starEach (e :: es) X.env = (false, eval e X.env) :: starEach es X.env := by rfl) (hpl : (backTo pos (starEach es X.env)).any (·.1) = false := by rfl) : PE X (.Call (.Name x p) (e :: es) [] pos) (tCB r t) := pe_callTy hc hg hm hv ha hn hdb he hpl
end
theorem _root_.L2.Room.le {j k : Nat} {A : Around} (r : L2.Room k A) (h : j ≤ k := by first | decide | exact Nat.le_refl _) : L2.Room j A := r.mono h

/-! ### statements, something behind -/
section
variable {K : PySem.W.Frag} {E : L2.WX} {ρ : Rho} {P : Pst} {te ta tb : TE} {t u tz : TS} {tt : TT} {d x y : D} {l : List D} {ds : List D} {tr : TA} {g : TG} {i : Nat} {wi : TI}
theorem wq_asg (hv : EvD K te ρ d) (h : Ws K E tz (ρ.set i (.im d)) P) : Ws K E (tSeq (tAsg te (gName i)) tz) ρ P := ws_seq (ws_asg hv h)
theorem wq_asgO (hv : EvO K te ρ l) (hi : i < ρ.length) (h : Ws K E tz (ρ.set i (.ow l)) P) : Ws K E (tSeq (tAsg te (gName i)) tz) ρ P := ws_seq (ws_asgO hv hi h)
theorem wq_asgC (hv : EvC K te ρ d) (hi : i < ρ.length) (h : Ws K E tz (ρ.set i (.cl d)) P) : Ws K E (tSeq (tAsg te (gName i)) tz) ρ P := ws_seq (ws_asgC hv hi h)
theorem wq_asgG {as : List (Nat × D)} (hv : EvD K te ρ d) (hg : GDs K g d as) (h : Ws K E tz (setD ρ as) P) : Ws K E (tSeq (tAsg te g) tz) ρ P := ws_seq (ws_asgG hv hg h)
theorem wq_asgX {Pr : PrD} (ha : EvA K tr ρ ds) (hi : i < ρ.length) (h : Pr ds (okSl (fun ρ' => Ws K E tz ρ' P) ρ i) (P.ex ρ)) : Ws K E (tSeq (tAsg (tCallS (spD K Pr) (WE E) tr) (gName i)) tz) ρ P := ws_seq (ws_asgX ha hi h)
theorem wq_drop (hv : EvD K te ρ d) (h : Ws K E tz ρ P) : Ws K E (tSeq (tDrop te) tz) ρ P := ws_seq (ws_drop hv h)
theorem wq_dropX {Pr : PrD} (ha : EvA K tr ρ ds) (h : Pr ds (fun s => s ≠ .no → Ws K E tz ρ P) (P.ex ρ)) : Ws K E (tSeq (tDrop (tCallS (spD K Pr) (WE E) tr)) tz) ρ P := ws_seq (ws_dropX ha h)
theorem wq_app (e : ρ[i]? = some (.ow l)) (hv : EvD K te ρ d) (hz : l.length < 100000) (h : Ws K E tz (ρ.set i (.ow (l ++ [d]))) P) : Ws K E (tSeq (tDrop (tBM K "list" rAppend (tVar i) (tCons te tNil))) tz) ρ P := ws_seq (ws_app e hv hz h)
theorem wq_setL {j : Nat} {z : Int} (e : ρ[i]? = some (.ow l)) (hv : EvD K te ρ d) (hi : EvD K tb ρ (.int z)) (hj : ixN l.length z = some j) (h : Ws K E tz (ρ.set i (.ow (l.set j d))) P) : Ws K E (tSeq (tAsg te (gSub (tVar i) tb rSetL)) tz) ρ P := ws_seq (ws_setL e hv hi hj h)
theorem wq_aug {r : R2} {z : D} (e : ρ[i]? = some (.im x)) (hv : EvD K te ρ y) (hr : RvD K r x y z) (h : Ws K E tz (ρ.set i (.im z)) P) : Ws K E (tSeq (tAug i te r) tz) ρ P := ws_seq (ws_aug e hv hr h)
theorem wq_if {b : Bool} (hc : EvT K tt ρ b) (h1 : b = true → Ws K E t ρ { P with nx := fun ρ' => Ws K E tz ρ' P }) (h2 : b = false → Ws K E u ρ { P with nx := fun ρ' => Ws K E tz ρ' P }) : Ws K E (tSeq (tIfS tt t u) tz) ρ P := ws_seq (ws_if hc h1 h2)
theorem wq_when {b : Bool} (hc : EvT K tt ρ b) (h1 : b = true → Ws K E t ρ { P with nx := fun ρ' => Ws K E tz ρ' P }) (h2 : b = false → Ws K E tz ρ P) : Ws K E (tSeq (tIfS tt t tNext) tz) ρ P := ws_seq (ws_if hc h1 fun hb => ws_next (h2 hb))
theorem wq_for (hs : SrcD K wi ρ l) (Iv : Nat → Rho → Prop) (h0 : Iv 0 ρ)
    (hb : ∀ i d ρ', l[i]? = some d → Iv i ρ' → ∃ as, GDs K g d as ∧ Ws K E tb' (setD ρ' as) { P with nx := Iv (i + 1), ct := Iv (i + 1), bk := fun ρ' => Ws K E tz ρ' P })
    (hd : ∀ ρ', Iv l.length ρ' → Ws K E tz ρ' P) : Ws K E (tSeq (tFor wi g tb') tz) ρ P := ws_seq (ws_for hs Iv h0 hb hd)
theorem wq_while {tb : TS} (Iv : Nat → Rho → Prop) (m0 : Nat) (h0 : Iv m0 ρ)
    (hb : ∀ m ρ', Iv m ρ' → ∃ b, EvT K tt ρ' b ∧ (b = true → Ws K E tb ρ' { P with nx := fun ρ2 => ∃ m', m' < m ∧ Iv m' ρ2, ct := fun ρ2 => ∃ m', m' < m ∧ Iv m' ρ2, bk := fun ρ' => Ws K E tz ρ' P }) ∧ (b = false → Ws K E tz ρ' P)) : Ws K E (tSeq (tWhile tt tb) tz) ρ P := ws_seq (ws_while Iv m0 h0 hb)
/-- a fact of the state, written as one likes -/
theorem ws_to {ρ' : Rho} (e : ρ = ρ') (h : Ws K E t ρ' P) : Ws K E t ρ P := e ▸ h
end
/-- bounds by powers of two, small numbers -/
theorem cdiv_small {i j : Int} (h : 0 < j) (h2 : j < 2 ^ 62) : CDivW i j := wide_div (b := 62) h (by omega) (by decide) (by decide)
theorem cmul_left {i j : Int} (h : -(2 ^ 62) < i ∧ i < 2 ^ 62) : CMul i j := .inl ⟨by omega, by omega⟩
theorem cmul_right {i j : Int} (h : -(2 ^ 62) < j ∧ j < 2 ^ 62) : CMul i j := .inr ⟨by omega, by omega⟩
/-! items of plain lists -/
theorem at_map {α : Type} {f : α → D} {l : List α} {k : Nat} {x : α} (h : l[k]? = some x) : atI (l.map f) (k : Int) = some (f x) := atI_nat (by rw [List.getElem?_map, h] <;> rfl)
theorem at_ints {ns : List Int} {k : Nat} (h : k < ns.length) : atI (ns.map D.int) (k : Int) = some (.int (ns.getD k 0)) := at_map (by rw [List.getD_eq_getElem?_getD, List.getElem?_eq_getElem h] <;> rfl)
end FS
set_option Elab.async false
set_option linter.all false
set_option maxRecDepth 100000
set_option maxHeartbeats 4000000
namespace FS
open PySem PySem.Spec PyProof.Rows L2

/-! ### == of data -/
mutual
def D.py : D → PyData
  | .bl b => .bool b
  | .int i => .int i
  | .str x => .str x
  | .tup l => .tuple (D.pyL l)
  | .lst l => .list (D.pyL l)
  | _ => .none
def D.pyL : List D → List PyData
  | [] => []
  | d :: l => D.py d :: D.pyL l
end
mutual
/-- None, truth values, ints, texts, lists and tuples of these, at most n deep -/
def D.flat : Nat → D → Bool
  | _, .non => true
  | _, .bl _ => true
  | _, .int _ => true
  | _, .str x => PyData.strOk x
  | n + 1, .tup l => D.flatL n l
  | n + 1, .lst l => D.flatL n l
  | _, _ => false
def D.flatL : Nat → List D → Bool
  | _, [] => true
  | n, d :: l => D.flat n d && D.flatL n l
end
theorem flatL_iff {n : Nat} : ∀ {l : List D}, D.flatL n l = true ↔ ∀ d ∈ l, d.flat n = true
  | [] => by simp [D.flatL]
  | d :: l => by simp [D.flatL, flatL_iff (l := l)]
theorem pyL_map : ∀ l : List D, D.pyL l = l.map D.py
  | [] => rfl
  | d :: l => by rw [D.pyL, pyL_map l] <;> rfl
mutual
theorem py_can : ∀ (n : Nat) (d : D), d.flat n = true → d.py.canLay0 = true ∧ d.py.depth ≤ n
  | n, .non, _ => by cases n <;> exact ⟨rfl, Nat.zero_le _⟩
  | n, .bl _, _ => ⟨rfl, Nat.zero_le _⟩
  | n, .int _, _ => ⟨rfl, Nat.zero_le _⟩
  | n, .str x, h => by
    refine ⟨?_, Nat.zero_le _⟩
    cases n <;> exact h
  | 0, .tup l, h => by cases h
  | 0, .lst l, h => by cases h
  | n + 1, .tup l, h => by
    obtain ⟨h1, h2⟩ := py_canL n l h
    exact ⟨h1, Nat.succ_le_succ h2⟩
  | n + 1, .lst l, h => by
    obtain ⟨h1, h2⟩ := py_canL n l h
    exact ⟨h1, Nat.succ_le_succ h2⟩
  | n, .scr _, h => by cases n <;> cases h
  | n, .ty _, h => by cases n <;> cases h
  | n, .obj _, h => by cases n <;> cases h
  | n, .ins _ _ _, h => by cases n <;> cases h
  | n, .exc _ _ _ _, h => by cases n <;> cases h
  | n, .dic _ _, h => by cases n <;> cases h
  | n, .slf _ _ _ _, h => by cases n <;> cases h
  | n, .lsa _ _, h => by cases n <;> cases h
  | n, .kn _, h => by cases n <;> cases h
theorem py_canL : ∀ (n : Nat) (l : List D), D.flatL n l = true → PyData.canLayAll0 (D.pyL l) = true ∧ PyData.depthAll (D.pyL l) ≤ n
  | n, [], _ => ⟨rfl, Nat.zero_le _⟩
  | n, d :: l, h => by
    have h' : d.flat n = true ∧ D.flatL n l = true := by simpa [D.flatL] using h
    obtain ⟨a1, a2⟩ := py_can n d h'.1
    obtain ⟨b1, b2⟩ := py_canL n l h'.2
    refine ⟨?_, Nat.max_le.mpr ⟨a2, b2⟩⟩
    show (d.py.canLay0 && PyData.canLayAll0 (D.pyL l)) = true
    rw [a1, b1] <;> rfl
end
theorem py_shaped {n : Nat} {d : D} (h : d.flat n = true) (hn : n ≤ 64) : SeqAt.shaped d.py = true := by
  obtain ⟨h1, h2⟩ := py_can n d h
  unfold SeqAt.shaped
  rw [h1, decide_eq_true (Nat.le_trans h2 hn)] <;> rfl
mutual
theorem is_dp {K : PySem.W.Frag} {H : Hp} : ∀ (n : Nat) (d : D) (v : V), d.flat n = true → Is K H d v → Dp K H v d.py
  | n, .non, _, _, h => by rw [show _ = V.non from h]; exact .non
  | n, .bl b, _, _, h => by rw [show _ = V.bl b from h]; exact .bl b
  | n, .int i, _, _, h => by rw [show _ = V.int i from h]; exact .int i
  | n, .str x, _, _, h => by rw [show _ = V.str x from h]; exact .str x
  | 0, .tup l, _, h, _ => by cases h
  | 0, .lst l, _, h, _ => by cases h
  | n + 1, .tup l, _, h, ⟨a, vs, e, h1, h2⟩ => by
    subst e
    exact .tup h1 (is_dpL n l vs h h2)
  | n + 1, .lst l, _, h, ⟨a, vs, e, h1, h2⟩ => by
    subst e
    exact .lst (.inl (.inl h1)) (is_dpL n l vs h h2)
  | n, .scr _, _, h, _ => by cases n <;> cases h
  | n, .ty _, _, h, _ => by cases n <;> cases h
  | n, .obj _, _, h, _ => by cases n <;> cases h
  | n, .ins _ _ _, _, h, _ => by cases n <;> cases h
  | n, .exc _ _ _ _, _, h, _ => by cases n <;> cases h
  | n, .dic _ _, _, h, _ => by cases n <;> cases h
  | n, .slf _ _ _ _, _, h, _ => by cases n <;> cases h
  | n, .lsa _ _, _, h, _ => by cases n <;> cases h
  | n, .kn _, _, h, _ => by cases n <;> cases h
theorem is_dpL {K : PySem.W.Frag} {H : Hp} : ∀ (n : Nat) (l : List D) (vs : List V), D.flatL n l = true → IsL K H l vs → DpAll K H vs (D.pyL l)
  | n, [], _, _, h => by rw [show _ = [] from h]; exact .nil
  | n, d :: l, _, h, ⟨v, r, e, h1, h2⟩ => by
    have h' : d.flat n = true ∧ D.flatL n l = true := by simpa [D.flatL] using h
    rw [e]
    exact .cons (is_dp n d v h'.1 h1) (is_dpL n l r h'.2 h2)
end
section
variable {K : PySem.W.Frag} {ρ : Rho} {x y z d : D} {l : List D} {n : Nat} {te ta tb : TE} {i : Nat} {E : L2.WX} {P : Pst}
theorem rv_eqD (h1 : x.flat n = true) (h2 : y.flat n = true) (hn : n ≤ 64) : RvD K (rEqA K) x y (.bl (PyData.eqv x.py y.py)) := fun H T vx vy Q s i1 i2 q =>
  .inr ⟨x.py, y.py, is_dp n x vx h1 (i1.up s), is_dp n y vy h2 (i2.up s), py_shaped h1 hn, py_shaped h2 hn, q _ rfl⟩
theorem rv_neD (h1 : x.flat n = true) (h2 : y.flat n = true) (hn : n ≤ 64) : RvD K (rNeA K) x y (.bl (!PyData.eqv x.py y.py)) := fun H T vx vy Q s i1 i2 q =>
  .inr ⟨x.py, y.py, is_dp n x vx h1 (i1.up s), is_dp n y vy h2 (i2.up s), py_shaped h1 hn, py_shaped h2 hn, q _ rfl⟩
theorem rv_eqDD (h1 : x.flat n = true) (hn : n ≤ 64) : RvD K (rEqA K) x x (.bl true) := by
  have h := rv_eqD (K := K) h1 h1 hn
  rw [SeqAt.eqv_refl _ (py_can n x h1).1] at h
  exact h
theorem rv_neDD (h1 : x.flat n = true) (hn : n ≤ 64) : RvD K (rNeA K) x x (.bl false) := by
  have h := rv_neD (K := K) h1 h1 hn
  rw [SeqAt.eqv_refl _ (py_can n x h1).1] at h
  exact h

/-! ### isinstance -/
/-- the built-in class of d -/
def D.cls : D → Option String
  | .non => some "NoneType"
  | .bl _ => some "bool"
  | .int _ => some "int"
  | .str _ => some "str"
  | .tup _ => some "tuple"
  | .lst _ => some "list"
  | _ => none
theorem tyx_of {H : Hp} {v : V} {c : String} (h : Is K H d v) (e : d.cls = some c) : TyX K H v (.type c) := by
  cases d with
  | non => cases e; rw [show v = V.non from h]; exact .base .non
  | bl b => cases e; rw [show v = V.bl b from h]; exact .base (.bl b)
  | int b => cases e; rw [show v = V.int b from h]; exact .base (.int b)
  | str b => cases e; rw [show v = V.str b from h]; exact .base (.str b)
  | tup l =>
    cases e
    obtain ⟨a, vs, rfl, h1, _⟩ := h
    rcases h1 with (h1 | ⟨o, h1⟩) | ⟨o, its, n, h1, h2, _⟩
    · exact .base (.tup h1)
    · exact .fTuple h1
    · exact .kTuple h1 h2
  | lst l =>
    cases e
    obtain ⟨a, vs, rfl, h1, _⟩ := h
    exact .base (.lst h1)
  | scr l => cases e
  | ty l => cases e
  | obj l => cases e
  | ins C ns l => cases e
  | exc a od ns l => cases e
  | dic a b => cases e
  | slf a b c f => cases e
  | lsa a b => cases e
  | kn b => cases e
theorem rc_isi {c t : String} {r : Bool} (e : d.cls = some c) (hk : kitB c t = some r) : RcD K (rIsi K) [d, .ty t] (.bl r) := fun H T vs Q s h q => by
  obtain ⟨v, w, rfl, h1, h2⟩ := isL_two h
  exact ⟨v, .ty t, .type c, .type t, r, by rw [show w = V.ty t from h2], .ty t, tyx_of (h1.up s) e, kit_ty hk, q _ rfl⟩

end
theorem rv_p6 {K : PySem.W.Frag} : RvD K rPowA (.int 10) (.int 6) (.int 1000000) := rv_pow ⟨by decide, by decide, by decide⟩ (by decide)
theorem rv_p7 {K : PySem.W.Frag} : RvD K rPowA (.int 10) (.int 7) (.int 10000000) := rv_pow ⟨by decide, by decide, by decide⟩ (by decide)
theorem rv_p8 {K : PySem.W.Frag} : RvD K rPowA (.int 10) (.int 8) (.int 100000000) := rv_pow ⟨by decide, by decide, by decide⟩ (by decide)
theorem rv_p12 {K : PySem.W.Frag} : RvD K rPowA (.int 10) (.int 12) (.int 1000000000000) := rv_pow ⟨by decide, by decide, by decide⟩ (by decide)
theorem rv_p18 {K : PySem.W.Frag} : RvD K rPowA (.int 10) (.int 18) (.int 1000000000000000000) := rv_pow ⟨by decide, by decide, by decide⟩ (by decide)
theorem rv_p20 {K : PySem.W.Frag} : RvD K rPowA (.int 10) (.int 20) (.int 100000000000000000000) := rv_pow ⟨by decide, by decide, by decide⟩ (by decide)
theorem rv_p25 {K : PySem.W.Frag} : RvD K rPowA (.int 10) (.int 25) (.int 10000000000000000000000000) := rv_pow ⟨by decide, by decide, by decide⟩ (by decide)
theorem rv_p30 {K : PySem.W.Frag} : RvD K rPowA (.int 10) (.int 30) (.int 1000000000000000000000000000000) := rv_pow ⟨by decide, by decide, by decide⟩ (by decide)
theorem rv_p39 {K : PySem.W.Frag} : RvD K rPowA (.int 10) (.int 39) (.int 1000000000000000000000000000000000000000) := rv_pow ⟨by decide, by decide, by decide⟩ (by decide)
theorem rv_p40 {K : PySem.W.Frag} : RvD K rPowA (.int 10) (.int 40) (.int 10000000000000000000000000000000000000000) := rv_pow ⟨by decide, by decide, by decide⟩ (by decide)
theorem rv_p60 {K : PySem.W.Frag} : RvD K rPowA (.int 10) (.int 60) (.int 1000000000000000000000000000000000000000000000000000000000000) := rv_pow ⟨by decide, by decide, by decide⟩ (by decide)
theorem at_getD {ns : List Int} {k : Int} (h0 : 0 ≤ k) (h : k < ns.length) : atI (ns.map D.int) k = some (.int (ns.getD k.toNat 0)) := by
  have e : k = ((k.toNat : Nat) : Int) := by omega
  have := at_ints (ns := ns) (k := k.toNat) (by omega)
  rw [← e] at this
  exact this
theorem atI_getD {ns : List Int} {k : Int} (h0 : 0 ≤ k) (h : k < ns.length) : atI ns k = some (ns.getD k.toNat 0) := by
  unfold atI ixN
  rw [if_pos h0, if_pos h]
  show ns[k.toNat]? = _
  rw [List.getD_eq_getElem?_getD, List.getElem?_eq_getElem (by omega)]
  rfl
theorem ev_ty {K : PySem.W.Frag} {ρ : Rho} {n : String} : EvD K (tC (.ty n)) ρ (.ty n) := ev_c fun _ => rfl
section
variable {K : PySem.W.Frag} {E : L2.WX} {ρ : Rho} {P : Pst} {t u tz : TS} {tt : TT} {b : Bool}
theorem ws_ifT (hc : EvT K tt ρ b) (e : b = true) (h : Ws K E t ρ P) : Ws K E (tIfS tt t u) ρ P := ws_if hc (fun _ => h) (fun z => by rw [e] at z; cases z)
theorem ws_ifF (hc : EvT K tt ρ b) (e : b = false) (h : Ws K E u ρ P) : Ws K E (tIfS tt t u) ρ P := ws_if hc (fun z => by rw [e] at z; cases z) (fun _ => h)
theorem wq_ifT (hc : EvT K tt ρ b) (e : b = true) (h : Ws K E t ρ { P with nx := fun ρ' => Ws K E tz ρ' P }) : Ws K E (tSeq (tIfS tt t u) tz) ρ P := ws_seq (ws_ifT hc e h)
theorem wq_ifF (hc : EvT K tt ρ b) (e : b = false) (h : Ws K E u ρ { P with nx := fun ρ' => Ws K E tz ρ' P }) : Ws K E (tSeq (tIfS tt t u) tz) ρ P := ws_seq (ws_ifF hc e h)
theorem wq_noif (hc : EvT K tt ρ b) (e : b = false) (h : Ws K E tz ρ P) : Ws K E (tSeq (tIfS tt t tNext) tz) ρ P := ws_seq (ws_ifF hc e (ws_next h))
end
/-- a def of which nothing is said -/
theorem Df.none {P : Program} {w : World} {K : PySem.W.Frag} {mg : Str → Option Value} {base : Heap} {x : Str} {st : Stmt} {ps : List Str} {CX : CXT} {k : Nat} (F : Df K mg x st ps) : FnG P w K mg base CX k x ps (spD K fun _ _ _ => False) := by
  obtain ⟨f, fd, F, hm, hb⟩ := F.ex
  exact ⟨f, fd, ⟨fun vs H Q E h => by
    obtain ⟨_, _, _, _, _, _, _, h, _⟩ := h
    exact h.elim, fun A outer s H args us vs Q E hr he hb hv h => by
    obtain ⟨_, _, _, _, _, _, _, h, _⟩ := h
    exact h.elim⟩, hm, F.kp, hb⟩
/-! data of ints, None, tuples and lists, at most n levels deep -/
mutual
def D.pl : Nat → D → Bool
  | _, .non => true
  | _, .int _ => true
  | n + 1, .tup l => D.plL n l && decide (l.length ≤ 100000)
  | n + 1, .lst l => D.plL n l && decide (l.length ≤ 100000)
  | _, _ => false
def D.plL : Nat → List D → Bool
  | _, [] => true
  | n, d :: l => D.pl n d && D.plL n l
end
theorem D.plL_get {n : Nat} : ∀ {l : List D} {i : Nat} {d : D}, D.plL n l = true → l[i]? = some d → D.pl n d = true
  | [], _, _, _, h => by simp at h
  | x :: l, 0, d, h, e => by
    rw [D.plL, Bool.and_eq_true] at h
    cases e
    exact h.1
  | x :: l, i + 1, d, h, e => by
    rw [D.plL, Bool.and_eq_true] at h
    exact D.plL_get h.2 e
theorem D.plL_of {n : Nat} : ∀ {l : List D}, (∀ d ∈ l, D.pl n d = true) → D.plL n l = true
  | [], _ => by simp [D.plL]
  | x :: l, h => by rw [D.plL, h x List.mem_cons_self, D.plL_of fun d hd => h d (List.mem_cons_of_mem _ hd)] <;> rfl
theorem D.pl_int {n : Nat} {i : Int} : D.pl n (.int i) = true := by cases n <;> rfl
theorem D.pl_non {n : Nat} : D.pl n .non = true := by cases n <;> rfl
theorem isi_non_int {K : PySem.W.Frag} : RcD K (rIsi K) [D.non, .ty "int"] (.bl false) := rc_isi rfl (by decide +kernel)
theorem isi_non_bool {K : PySem.W.Frag} : RcD K (rIsi K) [D.non, .ty "bool"] (.bl false) := rc_isi rfl (by decide +kernel)
theorem isi_non_str {K : PySem.W.Frag} : RcD K (rIsi K) [D.non, .ty "str"] (.bl false) := rc_isi rfl (by decide +kernel)
theorem isi_non_tuple {K : PySem.W.Frag} : RcD K (rIsi K) [D.non, .ty "tuple"] (.bl false) := rc_isi rfl (by decide +kernel)
theorem isi_non_list {K : PySem.W.Frag} : RcD K (rIsi K) [D.non, .ty "list"] (.bl false) := rc_isi rfl (by decide +kernel)
theorem isi_bl_int {K : PySem.W.Frag} {b : Bool} : RcD K (rIsi K) [D.bl b, .ty "int"] (.bl true) := rc_isi rfl (by decide +kernel)
theorem isi_bl_bool {K : PySem.W.Frag} {b : Bool} : RcD K (rIsi K) [D.bl b, .ty "bool"] (.bl true) := rc_isi rfl (by decide +kernel)
theorem isi_bl_str {K : PySem.W.Frag} {b : Bool} : RcD K (rIsi K) [D.bl b, .ty "str"] (.bl false) := rc_isi rfl (by decide +kernel)
theorem isi_bl_tuple {K : PySem.W.Frag} {b : Bool} : RcD K (rIsi K) [D.bl b, .ty "tuple"] (.bl false) := rc_isi rfl (by decide +kernel)
theorem isi_bl_list {K : PySem.W.Frag} {b : Bool} : RcD K (rIsi K) [D.bl b, .ty "list"] (.bl false) := rc_isi rfl (by decide +kernel)
theorem isi_int_int {K : PySem.W.Frag} {i : Int} : RcD K (rIsi K) [D.int i, .ty "int"] (.bl true) := rc_isi rfl (by decide +kernel)
theorem isi_int_bool {K : PySem.W.Frag} {i : Int} : RcD K (rIsi K) [D.int i, .ty "bool"] (.bl false) := rc_isi rfl (by decide +kernel)
theorem isi_int_str {K : PySem.W.Frag} {i : Int} : RcD K (rIsi K) [D.int i, .ty "str"] (.bl false) := rc_isi rfl (by decide +kernel)
theorem isi_int_tuple {K : PySem.W.Frag} {i : Int} : RcD K (rIsi K) [D.int i, .ty "tuple"] (.bl false) := rc_isi rfl (by decide +kernel)
theorem isi_int_list {K : PySem.W.Frag} {i : Int} : RcD K (rIsi K) [D.int i, .ty "list"] (.bl false) := rc_isi rfl (by decide +kernel)
theorem isi_str_int {K : PySem.W.Frag} {t : Str} : RcD K (rIsi K) [D.str t, .ty "int"] (.bl false) := rc_isi rfl (by decide +kernel)
theorem isi_str_bool {K : PySem.W.Frag} {t : Str} : RcD K (rIsi K) [D.str t, .ty "bool"] (.bl false) := rc_isi rfl (by decide +kernel)
theorem isi_str_str {K : PySem.W.Frag} {t : Str} : RcD K (rIsi K) [D.str t, .ty "str"] (.bl true) := rc_isi rfl (by decide +kernel)
theorem isi_str_tuple {K : PySem.W.Frag} {t : Str} : RcD K (rIsi K) [D.str t, .ty "tuple"] (.bl false) := rc_isi rfl (by decide +kernel)
theorem isi_str_list {K : PySem.W.Frag} {t : Str} : RcD K (rIsi K) [D.str t, .ty "list"] (.bl false) := rc_isi rfl (by decide +kernel)
theorem isi_tup_int {K : PySem.W.Frag} {l : List D} : RcD K (rIsi K) [D.tup l, .ty "int"] (.bl false) := rc_isi rfl (by decide +kernel)
theorem isi_tup_bool {K : PySem.W.Frag} {l : List D} : RcD K (rIsi K) [D.tup l, .ty "bool"] (.bl false) := rc_isi rfl (by decide +kernel)
theorem isi_tup_str {K : PySem.W.Frag} {l : List D} : RcD K (rIsi K) [D.tup l, .ty "str"] (.bl false) := rc_isi rfl (by decide +kernel)
theorem isi_tup_tuple {K : PySem.W.Frag} {l : List D} : RcD K (rIsi K) [D.tup l, .ty "tuple"] (.bl true) := rc_isi rfl (by decide +kernel)
theorem isi_tup_list {K : PySem.W.Frag} {l : List D} : RcD K (rIsi K) [D.tup l, .ty "list"] (.bl false) := rc_isi rfl (by decide +kernel)
theorem isi_lst_int {K : PySem.W.Frag} {l : List D} : RcD K (rIsi K) [D.lst l, .ty "int"] (.bl false) := rc_isi rfl (by decide +kernel)
theorem isi_lst_bool {K : PySem.W.Frag} {l : List D} : RcD K (rIsi K) [D.lst l, .ty "bool"] (.bl false) := rc_isi rfl (by decide +kernel)
theorem isi_lst_str {K : PySem.W.Frag} {l : List D} : RcD K (rIsi K) [D.lst l, .ty "str"] (.bl false) := rc_isi rfl (by decide +kernel)
theorem isi_lst_tuple {K : PySem.W.Frag} {l : List D} : RcD K (rIsi K) [D.lst l, .ty "tuple"] (.bl false) := rc_isi rfl (by decide +kernel)
theorem isi_lst_list {K : PySem.W.Frag} {l : List D} : RcD K (rIsi K) [D.lst l, .ty "list"] (.bl true) := rc_isi rfl (by decide +kernel)
end FS
set_option Elab.async false
set_option linter.all false
set_option maxRecDepth 100000
set_option maxHeartbeats 4000000
namespace FS
open PySem PySem.Spec PyProof.Rows L2

/-! ### parts of open trees, by path -/
section
variable {K : PySem.W.Frag} {E : L2.WX} {ρ : Rho} {P : Pst} {M X : Op} {T0 H H' T T' : Hp} {σ : L2.St} {te ta tb to : TE} {t u : TS} {d s x y : D} {l : List D} {ds : List D} {tr : TA} {i j : Nat} {π : List Nat}
theorem EnX.spot (h : EnX K M T0 H T σ ρ X) (e : ρ[i]? = some (.cl d)) (hd : D.at π d = some s) : ∃ v u Ls L0, σ[i]? = some (some v) ∧ IsC K H s u Ls ∧ Nav T π v u ∧ EnX K M T0 H T σ (ρ.set i .no) (Ls ++ (L0 ++ X)) ∧
    ∀ H' T' X' s' Ls', Same H H' → EnX K M T0 H' T' σ (ρ.set i .no) (Ls' ++ (L0 ++ X')) → IsC K H' s' u Ls' → EnX K M T0 H' T' σ (ρ.set i (.cl (D.put π d s'))) X' := by
  obtain ⟨x, Lt, h1, h2, h3⟩ := h.take e
  obtain ⟨v, rfl, hc⟩ := h2.cl1
  obtain ⟨u, Ls, L0, k1, k2, k3, k4⟩ := hc.focus hd
  have hi : i < (ρ.set i .no).length := by rw [List.length_set]; exact (List.getElem?_eq_some_iff.mp e).1
  refine ⟨v, u, Ls, L0, h1, k1, k3 T fun x hx => ?_, ?_, fun H' T' X' s' Ls' sm h' ic => ?_⟩
  · obtain ⟨L, r, q, f⟩ := h3.ex
    exact q.at_ x (List.mem_append_left _ (List.mem_append_left _ hx))
  · refine h3.perm ?_
    rw [← List.append_assoc]
    exact k2.append_right X
  · obtain ⟨L', q1, q2⟩ := k4 H' s' Ls' sm ic
    have h'' : EnX K M T0 H' T' σ (ρ.set i .no) (L' ++ X') := h'.perm (by
      rw [← List.append_assoc]
      exact (q2.symm.append_right X'))
    have q3 := EnX.setC (i := i) h'' hi q1
    rw [set_self h1, List.set_set] at q3
    exact q3
theorem EnX.here (h : EnX K M T0 H T σ ρ X) {Ls R : Op} (e : X = Ls ++ R) : ∀ x ∈ Ls, T x.1 = some x.2 := fun x hx => by
  obtain ⟨L, r, q, f⟩ := h.ex
  exact q.at_ x (List.mem_append_left _ (by rw [e]; exact List.mem_append_left _ hx))
/-- te is the part at π of the open tree in slot i -/
def EvL (K : PySem.W.Frag) (te : TE) (ρ : Rho) (i : Nat) (π : List Nat) : Prop := ∀ (M : Op) (T0 H T : Hp) (σ : L2.St) (X : Op) (Q : VK), EnX K M T0 H T σ ρ X → (∀ u H' T', Same H H' → Same T T' → EnX K M T0 H' T' σ ρ X → (∃ v, σ[i]? = some (some v) ∧ Nav T' π v u) → Q u T') → te σ T Q
theorem el_var (e : ρ[i]? = some (.cl d)) : EvL K (tVar i) ρ i [] := fun M T0 H T σ X Q h q => by
  obtain ⟨v, u, Ls, L0, h1, h2, h3, _⟩ := h.spot (π := []) e rfl
  exact ⟨v, h1, q v H T (Same.refl _) (Same.refl _) h ⟨v, h1, rfl⟩⟩
theorem Nav.snoc {v a : V} : ∀ {π : List Nat} {v w : V} {a : Addr}, Nav T π v (.ref a) → ((∃ vs, (T a = some (.lst vs) ∨ T a = some (.tup vs)) ∧ vs[j]? = some w) ∨ (∃ C dx fs n, T a = some (.ins C dx fs) ∧ fs[j]? = some (n, w)) ∨ (∃ kvs k, T a = some (.dK kvs) ∧ kvs[j]? = some (k, w))) → Nav T (π ++ [j]) v w
  | [], v, w, a, h, q => ⟨a, w, h, q, rfl⟩
  | k :: π, v, w, a, ⟨b, z, e, h, n⟩, q => ⟨b, z, e, h, Nav.snoc (v := v) (a := v) n q⟩
theorem at_snoc : ∀ {π : List Nat} {d s t : D}, D.at π d = some s → D.at [j] s = some t → D.at (π ++ [j]) d = some t
  | [], d, s, t, e, h => by
    have e : d = s := Option.some.inj e
    rw [e]
    exact h
  | k :: π, d, s, t, e, h => by
    cases d with
    | tup l =>
      obtain ⟨x, hx, e⟩ := Option.bind_eq_some_iff.mp (show (l[k]?).bind (D.at π) = some s from e)
      exact Option.bind_eq_some_iff.mpr ⟨x, hx, at_snoc e h⟩
    | lst l =>
      obtain ⟨x, hx, e⟩ := Option.bind_eq_some_iff.mp (show (l[k]?).bind (D.at π) = some s from e)
      exact Option.bind_eq_some_iff.mpr ⟨x, hx, at_snoc e h⟩
    | lsa a l =>
      obtain ⟨x, hx, e⟩ := Option.bind_eq_some_iff.mp (show (l[k]?).bind (D.at π) = some s from e)
      exact Option.bind_eq_some_iff.mpr ⟨x, hx, at_snoc e h⟩
    | ins C ns l =>
      have e : (if k < ns.length then (l[k]?).bind (D.at π) else none) = some s := e
      by_cases hk : k < ns.length
      · rw [if_pos hk] at e
        obtain ⟨x, hx, e⟩ := Option.bind_eq_some_iff.mp e
        show (if k < ns.length then (l[k]?).bind (D.at (π ++ [j])) else none) = some t
        rw [if_pos hk]
        exact Option.bind_eq_some_iff.mpr ⟨x, hx, at_snoc e h⟩
      · rw [if_neg hk] at e
        cases e
    | slf a C ns l =>
      have e : (if k < ns.length then (l[k]?).bind (D.at π) else none) = some s := e
      by_cases hk : k < ns.length
      · rw [if_pos hk] at e
        obtain ⟨x, hx, e⟩ := Option.bind_eq_some_iff.mp e
        show (if k < ns.length then (l[k]?).bind (D.at (π ++ [j])) else none) = some t
        rw [if_pos hk]
        exact Option.bind_eq_some_iff.mpr ⟨x, hx, at_snoc e h⟩
      · rw [if_neg hk] at e
        cases e
    | dic ns l =>
      have e : (if k < ns.length then (l[k]?).bind (D.at π) else none) = some s := e
      by_cases hk : k < ns.length
      · rw [if_pos hk] at e
        obtain ⟨x, hx, e⟩ := Option.bind_eq_some_iff.mp e
        show (if k < ns.length then (l[k]?).bind (D.at (π ++ [j])) else none) = some t
        rw [if_pos hk]
        exact Option.bind_eq_some_iff.mpr ⟨x, hx, at_snoc e h⟩
      · rw [if_neg hk] at e
        cases e
    | non => cases e
    | bl b => cases e
    | int b => cases e
    | str b => cases e
    | scr b => cases e
    | ty b => cases e
    | obj b => cases e
    | exc a b c f => cases e
    | kn b => cases e
theorem atI_of {vs : List V} {k : Int} {w : V} (h : ixN vs.length k = some j) (e : vs[j]? = some w) : atI vs k = some w := by
  unfold atI
  rw [h]
  exact e
/-- PATH[k], a list -/
theorem el_ix {k : Int} (e : ρ[i]? = some (.cl d)) (ha : EvL K ta ρ i π) (hd : D.at π d = some (.lst l)) (hb : EvD K tb ρ (.int k)) (hj : ixN l.length k = some j) : EvL K (tOp (rIx K) ta tb) ρ i (π ++ [j]) := fun M T0 H T σ X Q h q =>
  ha M T0 H T σ X _ h fun u H1 T1 s1 t1 e1 ⟨v, n1, n2⟩ => hb M T0 H1 T1 σ X _ e1 fun w H2 T2 s2 t2 e2 iw => by
    obtain ⟨v', u', Ls, L0, h1, ⟨a, vs, Lt, eu, eL, hl⟩, h3, h4, _⟩ := e2.spot e hd
    rw [n1] at h1
    cases h1
    have eu' := Nav.eq (n2.up t2) h3
    subst eu'
    subst eu
    have hT : T2 a = some (.lst vs) := h4.here rfl (a, .lst vs) (by rw [eL]; exact List.mem_cons_self)
    have hlen := hl.len
    have hjl : j < vs.length := by
      rw [hlen]
      unfold ixN at hj
      split at hj
      · split at hj
        · cases hj
          omega
        · cases hj
      · split at hj
        · cases hj
          omega
        · cases hj
    obtain ⟨z, hz⟩ := get_some hjl
    refine .inl ⟨a, vs, k, z, rfl, iw, .inl (.inl hT), atI_of (by rw [hlen]; exact hj) hz, q z H2 T2 (s1.trans s2) (t1.trans t2) e2 ⟨v, n1, ?_⟩⟩
    exact Nav.snoc (v := z) (a := z) h3 (.inl ⟨vs, .inl hT, hz⟩)
/-- PATH[k], a tuple -/
theorem el_ixT {k : Int} (e : ρ[i]? = some (.cl d)) (ha : EvL K ta ρ i π) (hd : D.at π d = some (.tup l)) (hb : EvD K tb ρ (.int k)) (hj : ixN l.length k = some j) : EvL K (tOp (rIx K) ta tb) ρ i (π ++ [j]) := fun M T0 H T σ X Q h q =>
  ha M T0 H T σ X _ h fun u H1 T1 s1 t1 e1 ⟨v, n1, n2⟩ => hb M T0 H1 T1 σ X _ e1 fun w H2 T2 s2 t2 e2 iw => by
    obtain ⟨v', u', Ls, L0, h1, ⟨a, vs, Lt, eu, eL, hl⟩, h3, h4, _⟩ := e2.spot e hd
    rw [n1] at h1
    cases h1
    have eu' := Nav.eq (n2.up t2) h3
    subst eu'
    subst eu
    have hT : T2 a = some (.tup vs) := h4.here rfl (a, .tup vs) (by rw [eL]; exact List.mem_cons_self)
    have hlen := hl.len
    have hjl : j < vs.length := by
      rw [hlen]
      unfold ixN at hj
      split at hj
      · split at hj
        · cases hj
          omega
        · cases hj
      · split at hj
        · cases hj
          omega
        · cases hj
    obtain ⟨z, hz⟩ := get_some hjl
    refine .inr (.inl ⟨a, vs, k, z, rfl, iw, .inl (.inl hT), atI_of (by rw [hlen]; exact hj) hz, q z H2 T2 (s1.trans s2) (t1.trans t2) e2 ⟨v, n1, ?_⟩⟩)
    exact Nav.snoc (v := z) (a := z) h3 (.inl ⟨vs, .inr hT, hz⟩)
/-- which field -/
def fldAt (ns : List Str) (f : Str) : Option Nat := ns.findIdx? (· == f)
theorem fld_look {α : Type} : ∀ {ns : List Str} {vs : List α} {f : Str} {j : Nat} {w : α}, fldAt ns f = some j → vs[j]? = some w → (ns.zip vs).lookup f = some w ∧ ∃ n, (ns.zip vs)[j]? = some (n, w)
  | [], _, _, _, _, h, _ => by simp [fldAt] at h
  | n :: ns, [], _, _, _, _, h => by simp at h
  | n :: ns, v :: vs, f, j, w, h, e => by
    unfold fldAt at h
    rw [List.findIdx?_cons] at h
    by_cases hn : (n == f) = true
    · rw [if_pos hn] at h
      cases h
      have hn' : n = f := by simpa using hn
      have e : v = w := Option.some.inj e
      subst e
      subst hn'
      exact ⟨by simp [List.lookup], ⟨n, rfl⟩⟩
    · rw [if_neg hn] at h
      obtain ⟨k, hk, ek⟩ := Option.map_eq_some_iff.mp h
      subst ek
      obtain ⟨h1, m, h2⟩ := fld_look (ns := ns) (vs := vs) (f := f) (j := k) (w := w) hk (by simpa using e)
      have hn' : (f == n) = false := by
        have : ¬ n = f := by simpa using hn
        simpa using fun z => this z.symm
      refine ⟨?_, ⟨m, by simpa using h2⟩⟩
      rw [List.zip_cons_cons, List.lookup_cons, hn']
      exact h1
theorem fldAt_lt {ns : List Str} {f : Str} (h : fldAt ns f = some j) : j < ns.length := by
  unfold fldAt at h
  exact (List.findIdx?_eq_some_iff_findIdx_eq.mp h).1
/-- PATH.f -/
theorem el_fld {C : Addr} {ns : List Str} {f : Str} (e : ρ[i]? = some (.cl d)) (ha : EvL K ta ρ i π) (hd : D.at π d = some (.ins C ns l)) (hj : fldAt ns f = some j) (hl0 : j < l.length) (c : Cls K C) (n : NoAttr K C f) : EvL K (tFld K ta f) ρ i (π ++ [j]) := fun M T0 H T σ X Q h q =>
  ha M T0 H T σ X _ h fun u H1 T1 s1 t1 e1 ⟨v, n1, n2⟩ => by
    obtain ⟨v', u', Ls, L0, h1, ⟨a, dx, vs, Lt, eu, eL, hl⟩, h3, h4, _⟩ := e1.spot e hd
    rw [n1] at h1
    cases h1
    have eu' := Nav.eq n2 h3
    subst eu'
    subst eu
    have hT : T1 a = some (.ins C dx (ns.zip vs)) := h4.here rfl (a, .ins C dx (ns.zip vs)) (by rw [eL]; exact List.mem_cons_self)
    obtain ⟨z, hz⟩ := get_some (l := vs) (i := j) (by rw [hl.len]; exact hl0)
    obtain ⟨g1, m, g2⟩ := fld_look hj hz
    exact ⟨a, C, dx, _, z, rfl, hT, c, n, g1, q z H1 T1 s1 t1 e1 ⟨v, n1, Nav.snoc (v := z) (a := z) h3 (.inr (.inl ⟨C, dx, _, m, hT, g2⟩))⟩⟩
/-- what is read there now -/
theorem en_spot (e : ρ[i]? = some (.cl d)) (ha : EvL K ta ρ i π) (hd : D.at π d = some s) : EvN K ta ρ s := fun M T0 H T σ X Q h q =>
  ha M T0 H T σ X _ h fun u H1 T1 s1 t1 e1 ⟨v, n1, n2⟩ => by
    obtain ⟨v', u', Ls, L0, h1, hc, h3, h4, _⟩ := e1.spot e hd
    rw [n1] at h1
    cases h1
    have eu' := Nav.eq n2 h3
    subst eu'
    exact q u H1 T1 s1 t1 e1 (IsC.is s u Ls (hc.up e1.same) (h4.here rfl))
theorem ev_spot (e : ρ[i]? = some (.cl d)) (ha : EvL K ta ρ i π) (hd : D.at π d = some (.kn s)) : EvD K ta ρ s := fun M T0 H T σ X Q h q =>
  ha M T0 H T σ X _ h fun u H1 T1 s1 t1 e1 ⟨v, n1, n2⟩ => by
    obtain ⟨v', u', Ls, L0, h1, hc, h3, h4, _⟩ := e1.spot e hd
    rw [n1] at h1
    cases h1
    have eu' := Nav.eq n2 h3
    subst eu'
    exact q u H1 T1 s1 t1 e1 hc.1
theorem ev_spotS (e : ρ[i]? = some (.cl d)) (ha : EvL K ta ρ i π) (hd : D.at π d = some s) (hs : s.sc = true) : EvD K ta ρ s := ev_now (en_spot e ha hd) hs

/-! ### changes in place -/
/-- PATH.append(e) -/
theorem ws_appP (e : ρ[i]? = some (.cl d)) (hp : EvL K to ρ i π) (hd : D.at π d = some (.lst l)) (hv : EvC K te ρ x) (hz : l.length < 100000) (h : P.nx (ρ.set i (.cl (D.put π d (.lst (l ++ [x])))))) :
    Ws K E (tDrop (tBM K "list" rAppend to (tCons te tNil))) ρ P := fun M T0 H T σ Dn en k =>
  hp M T0 H T σ [] _ en fun u H1 T1 s1 t1 e1 ⟨v, n1, n2⟩ => by
    obtain ⟨v', u', Ls, L0, h1, ⟨a, vs, Lt, eu, eL, hl⟩, h3, h4, _⟩ := e1.spot e hd
    rw [n1] at h1
    cases h1
    have eu' := Nav.eq n2 h3
    subst eu'
    subst eu
    have hT : T1 a = some (.lst vs) := h4.here rfl (a, .lst vs) (by rw [eL]; exact List.mem_cons_self)
    refine ⟨.inl ⟨rfl, vs, .inl (.inl hT)⟩, hv M T0 H1 T1 σ [] _ e1 fun w Lw H2 T2 s2 t2 e2 iw => ?_⟩
    obtain ⟨v2, u2, Ls2, L02, g1, ⟨a2, vs2, Lt2, eu2, eL2, hl2⟩, g3, g4, g5⟩ := e2.spot e hd
    rw [n1] at g1
    cases g1
    have ea := Nav.eq (h3.up t2) g3
    rw [eu2] at ea
    cases ea
    subst eu2
    subst eL2
    have hT2 : T2 a = some (.lst vs2) := g4.here rfl (a, .lst vs2) List.mem_cons_self
    refine ⟨a, vs2, w, rfl, rfl, hT2, by rw [hl2.len]; exact Nat.lt_of_lt_of_le hz (by decide), k.nx _ σ H2 _ h (s1.trans s2) ?_⟩
    refine g5 H2 _ [] (.lst (l ++ [x])) ((a, .lst (vs2 ++ [w])) :: (Lt2 ++ Lw)) (Same.refl _) ?_ ⟨a, _, _, rfl, rfl, hl2.app (.one iw)⟩
    have g6 := EnX.write (o' := .lst (vs2 ++ [w])) g4
    refine g6.perm (List.Perm.cons _ ?_)
    show List.Perm (Lt2 ++ (L02 ++ (Lw ++ []))) ((Lt2 ++ Lw) ++ (L02 ++ []))
    rw [List.append_nil, List.append_nil, List.append_assoc]
    exact List.Perm.append_left _ List.perm_append_comm
/-- PATH[k] = e -/
theorem ws_setP {k : Int} {y0 : D} (e : ρ[i]? = some (.cl d)) (hv : EvC K te ρ x) (hp : EvL K to ρ i π) (hd : D.at π d = some (.lst l)) (hb : EvD K tb ρ (.int k)) (hj : ixN l.length k = some j) (h0 : l[j]? = some y0) (h : P.nx (ρ.set i (.cl (D.put π d (.lst (l.set j x)))))) :
    Ws K E (tAsg te (gSub to tb rSetL)) ρ P := fun M T0 H T σ Dn en kk =>
  hv M T0 H T σ [] _ en fun w Lw H0 T00 s0 t0 e0 iw => hp M T0 H0 T00 σ _ _ e0 fun u H1 T1 s1 t1 e1 ⟨v, n1, n2⟩ => hb M T0 H1 T1 σ _ _ e1 fun z H2 T2 s2 t2 e2 iz => by
    obtain ⟨v2, u2, Ls2, L02, g1, ⟨a2, vs2, Lt2, eu2, eL2, hl2⟩, g3, g4, g5⟩ := e2.spot e hd
    rw [n1] at g1
    cases g1
    have ea := Nav.eq (n2.up t2) g3
    subst ea
    subst eu2
    subst eL2
    have hT2 : T2 a2 = some (.lst vs2) := g4.here rfl (a2, .lst vs2) List.mem_cons_self
    obtain ⟨w0, Lo, L1, L2, q1, q2, q3, q4⟩ := hl2.part h0
    refine ⟨a2, vs2, k, j, rfl, iz, hT2, by rw [hl2.len]; exact hj, kk.nx _ σ H2 _ h (s0.trans (s1.trans s2)) ?_⟩
    refine g5 H2 _ [] (.lst (l.set j x)) ((a2, .lst (vs2.set j w)) :: (L1 ++ (Lw ++ L2))) (Same.refl _) ?_ ⟨a2, _, _, rfl, rfl, q4 H2 x w Lw (Same.refl _) (iw.up (s1.trans s2))⟩
    have g6 := EnX.write (o' := .lst (vs2.set j w)) g4
    subst q3
    have sb : List.Sublist ((a2, HO.lst (vs2.set j w)) :: ((L1 ++ L2) ++ (L02 ++ (Lw ++ [])))) (((a2, HO.lst (vs2.set j w)) :: (L1 ++ (Lo ++ L2))) ++ (L02 ++ (Lw ++ []))) := by
      refine List.Sublist.cons_cons _ ?_
      exact (((List.Sublist.refl _).append (List.sublist_append_right _ _))).append (List.Sublist.refl _)
    refine (g6.sub sb).perm (List.Perm.cons _ ?_)
    show List.Perm ((L1 ++ L2) ++ (L02 ++ (Lw ++ []))) ((L1 ++ (Lw ++ L2)) ++ (L02 ++ []))
    have e1 : (L1 ++ L2) ++ (L02 ++ (Lw ++ [])) = L1 ++ ((L2 ++ L02) ++ Lw) := by simp [List.append_assoc]
    have e2 : (L1 ++ (Lw ++ L2)) ++ (L02 ++ []) = L1 ++ (Lw ++ (L2 ++ L02)) := by simp [List.append_assoc]
    rw [e1, e2]
    exact List.Perm.append_left _ List.perm_append_comm
end
/-! ### fields, methods, making -/
section
variable {K : PySem.W.Frag} {E : L2.WX} {XE' : XK} {ρ : Rho} {P : Pst} {M X : Op} {T0 H H' T T' : Hp} {σ : L2.St} {te ta tb to : TE} {t u : TS} {d s x y z : D} {l : List D} {ds : List D} {tr : TA} {i j : Nat} {C : Addr} {ns : List Str} {f : Str}
theorem is_fld {v : V} {dd : D} (h : Is K H (.ins C ns l) v) (hj : fldAt ns f = some j) (hd : l[j]? = some dd) : ∃ a dx fs w, v = .ref a ∧ H a = some (.ins C dx fs) ∧ fs.lookup f = some w ∧ Is K H dd w := by
  obtain ⟨a, dx, vs, rfl, h1, h2⟩ := h
  obtain ⟨w, e1, e2⟩ := h2.get hd
  exact ⟨a, dx, _, w, rfl, h1, (fld_look hj e1).1, e2⟩
theorem ev_fld (ha : EvD K ta ρ (.ins C ns l)) (hj : fldAt ns f = some j) (hd : l[j]? = some d) (c : Cls K C) (n : NoAttr K C f) : EvD K (tFld K ta f) ρ d := fun M T0 H T σ X Q h q =>
  ha M T0 H T σ X _ h fun v H1 T1 s1 t1 e1 i1 => by
    obtain ⟨a, dx, fs, w, rfl, g1, g2, g3⟩ := is_fld i1 hj hd
    exact ⟨a, C, dx, fs, w, rfl, e1.same _ _ g1, c, n, g2, q w H1 T1 s1 t1 e1 g3⟩
theorem en_fld (ha : EvN K ta ρ (.ins C ns l)) (hj : fldAt ns f = some j) (hd : l[j]? = some d) (c : Cls K C) (n : NoAttr K C f) : EvN K (tFld K ta f) ρ d := fun M T0 H T σ X Q h q =>
  ha M T0 H T σ X _ h fun v H1 T1 s1 t1 e1 i1 => by
    obtain ⟨a, dx, fs, w, rfl, g1, g2, g3⟩ := is_fld i1 hj hd
    exact ⟨a, C, dx, fs, w, rfl, g1, c, n, g2, q w H1 T1 s1 t1 e1 g3⟩
theorem putF_zip : ∀ {ns : List Str} {vs : List V} {f : Str} {w : V}, ns.length = vs.length → f ∉ ns → putF f w (ns.zip vs) = (ns ++ [f]).zip (vs ++ [w])
  | [], [], f, w, _, _ => rfl
  | n :: ns, v :: vs, f, w, h, hn => by
    have h1 : ¬ n = f := fun e => hn (by simp [e])
    have ih := putF_zip (ns := ns) (vs := vs) (f := f) (w := w) (by simpa using h) (fun q => hn (List.mem_cons_of_mem _ q))
    show putF f w ((n, v) :: ns.zip vs) = (n, v) :: (ns ++ [f]).zip (vs ++ [w])
    rw [← ih]
    exact if_neg h1
  | [], v :: vs, _, _, h, _ => by simp at h
  | n :: ns, [], _, _, h, _ => by simp at h
/-- x.f of an instance that is being made -/
theorem el_self {a : Addr} (e : ρ[i]? = some (.cl (.slf a C ns l))) (hj : fldAt ns f = some j) (hl0 : j < l.length) (c : Cls K C) (n : NoAttr K C f) : EvL K (tFld K (tVar i) f) ρ i [j] := fun M T0 H T σ X Q h q => by
  obtain ⟨v, u, Ls, L0, h1, ⟨eu, dx, vs, Lt, eL, hl⟩, h3, h4, _⟩ := h.spot (π := []) e rfl
  have ev : v = u := h3
  subst ev
  subst eu
  have hT : T a = some (.ins C dx (ns.zip vs)) := h4.here rfl (a, .ins C dx (ns.zip vs)) (by rw [eL]; exact List.mem_cons_self)
  obtain ⟨z, hz⟩ := get_some (l := vs) (i := j) (by rw [hl.len]; exact hl0)
  obtain ⟨g1, m, g2⟩ := fld_look hj hz
  exact ⟨.ref a, h1, a, C, dx, _, z, rfl, hT, c, n, g1, q z H T (Same.refl _) (Same.refl _) h ⟨_, h1, a, z, rfl, .inr (.inl ⟨C, dx, _, m, hT, g2⟩), rfl⟩⟩
/-- x.f = e, x an instance that is being made, without f -/
theorem ws_fld {a : Addr} (e : ρ[i]? = some (.cl (.slf a C ns l))) (hv : EvC K te ρ x) (hn : ns.length = l.length) (hf : f ∉ ns) (hz : ns.length < 1000) (c : Cls K C) (n : NoAttr K C f) (h : P.nx (ρ.set i (.cl (.slf a C (ns ++ [f]) (l ++ [x]))))) :
    Ws K E (sFld K (tVar i) te f) ρ P := fun M T0 H T σ Dn en kk =>
  hv M T0 H T σ [] _ en fun w Lw H1 T1 s1 t1 e1 iw => by
    obtain ⟨v, u, Ls, L0, h1, ⟨eu, dx, vs, Lt, eL, hl⟩, h3, h4, h5⟩ := e1.spot (π := []) e rfl
    have ev : v = u := h3
    subst ev
    subst eu
    subst eL
    have hT : T1 a = some (.ins C dx (ns.zip vs)) := h4.here rfl (a, .ins C dx (ns.zip vs)) List.mem_cons_self
    have hlv : ns.length = vs.length := by rw [hn, hl.len]
    refine ⟨.ref a, h1, a, C, dx, _, rfl, hT, c, n, by rw [List.length_zip]; exact Nat.lt_of_le_of_lt (Nat.min_le_left _ _) hz, kk.nx _ σ H1 _ h s1 ?_⟩
    rw [putF_zip hlv hf]
    refine h5 H1 _ [] (.slf a C (ns ++ [f]) (l ++ [x])) ((a, .ins C dx ((ns ++ [f]).zip (vs ++ [w]))) :: (dx, .own a) :: (Lt ++ Lw)) (Same.refl _) ?_ ⟨rfl, dx, _, _, rfl, hl.app (.one iw)⟩
    have g6 := EnX.write (o' := .ins C dx ((ns ++ [f]).zip (vs ++ [w]))) h4
    refine g6.perm (List.Perm.cons _ (List.Perm.cons _ ?_))
    show List.Perm (Lt ++ (L0 ++ (Lw ++ []))) ((Lt ++ Lw) ++ (L0 ++ []))
    rw [List.append_nil, List.append_nil, List.append_assoc]
    exact List.Perm.append_left _ List.perm_append_comm
/-! methods: the instance is the first argument -/
theorem look_none {ns : List Str} {vs : List V} {m : Str} (h : m ∉ ns) : (ns.zip vs).lookup m = none := by
  rw [List.lookup_eq_none_iff]
  intro p hp
  have := (List.of_mem_zip (show (p.1, p.2) ∈ ns.zip vs from hp)).1
  simpa using fun e : m = p.1 => h (e ▸ this)
theorem ev_meth {m : Str} {P : PrD} {Ex : XK} (ha : EvD K ta ρ (.ins C ns l)) (hm : m ∉ ns) (hr : EvA K tr ρ ds) (hp : P (.ins C ns l :: ds) (fun s => s = .im z) (fun _ => False)) : EvD K (tMeth C m (spD K P) [] Ex ta tr) ρ z := fun M T0 H T σ X Q e q =>
  ha M T0 H T σ X _ e fun v H0 T0' s0 t0 e0 i0 => by
    obtain ⟨a, dx, us, rfl, g1, g2⟩ := i0
    refine ⟨a, dx, _, rfl, e0.same _ _ g1, look_none hm, hr M T0 H0 T0' σ X _ e0 fun vs H1 T1 s1 t1 e1 i1 => ?_⟩
    obtain ⟨L, r, o, f⟩ := e1.ex
    show spD K P (.ref a :: (vs ++ [])) T1 Q Ex
    rw [List.append_nil]
    refine ⟨_, H1, .ins C ns l :: ds, _, _, o, .cons ((show Is K H0 (.ins C ns l) (.ref a) from ⟨a, dx, us, rfl, g1, g2⟩).up s1) i1, hp, fun s v H' T' hs s' t' hr => ?_, fun _ _ _ _ _ _ h => h.elim⟩
    subst hs
    obtain ⟨e2, iz⟩ := e1.ret_im r f s' t' hr
    exact q v H' T' (s0.trans (s1.trans s')) (t0.trans (t1.trans t')) e2 iz
theorem ec_meth {m : Str} {P : PrD} {Ex : XK} (ha : EvD K ta ρ (.ins C ns l)) (hm : m ∉ ns) (hr : EvA K tr ρ ds) (hp : P (.ins C ns l :: ds) (fun s => s = .cl z) (fun _ => False)) : EvC K (tMeth C m (spD K P) [] Ex ta tr) ρ z := fun M T0 H T σ X Q e q =>
  ha M T0 H T σ X _ e fun v H0 T0' s0 t0 e0 i0 => by
    obtain ⟨a, dx, us, rfl, g1, g2⟩ := i0
    refine ⟨a, dx, _, rfl, e0.same _ _ g1, look_none hm, hr M T0 H0 T0' σ X _ e0 fun vs H1 T1 s1 t1 e1 i1 => ?_⟩
    obtain ⟨L, r, o, f⟩ := e1.ex
    show spD K P (.ref a :: (vs ++ [])) T1 Q Ex
    rw [List.append_nil]
    refine ⟨_, H1, .ins C ns l :: ds, _, _, o, .cons ((show Is K H0 (.ins C ns l) (.ref a) from ⟨a, dx, us, rfl, g1, g2⟩).up s1) i1, hp, fun s v H' T' hs s' t' hr => ?_, fun _ _ _ _ _ _ h => h.elim⟩
    subst hs
    obtain ⟨Lc, e2, iz⟩ := e1.ret_cl r f s' t' hr
    exact q v Lc H' T' (s0.trans (s1.trans s')) (t0.trans (t1.trans t')) e2 iz
/-- the promise of an __init__: R says what instance is made -/
def spMk (K : PySem.W.Frag) (C : Addr) (P : List D → (D → Prop) → (Exn → Prop) → Prop) : Sp := fun vs T Q Ex => ∃ (x dx : Addr) (us : List V) (M : Op) (H T0 : Hp) (ds : List D) (R : D → Prop) (Z : Exn → Prop), vs = .ref x :: us ∧ Opn H T ((x, .ins C dx []) :: (dx, .own x) :: M) ∧ IsL K H ds us ∧ T0 x = none ∧ T0 dx = none ∧ Same T0 T ∧ P ds R Z ∧
  (∀ d Lc H' T', R d → Same H H' → Same T0 T' → IsC K H' d (.ref x) Lc → Opn H' T' (Lc ++ M) → (∀ p ∈ Lc, T0 p.1 = none) → Q .non T') ∧ ∀ c ns es od H' T', Z (c, ns, es) → Same H H' → Same T0 T' → Opn H' T' M → IsX K T0 H' od ns es → Ex c od T'
theorem ec_make {P : List D → (D → Prop) → (Exn → Prop) → Prop} {Ex : XK} (hr : EvA K tr ρ ds) (hp : P ds (fun d => d = z) (fun _ => False)) : EvC K (tMake C (spMk K C P) [] Ex tr) ρ z := fun M T0 H T σ X Q e q =>
  hr M T0 H T σ X _ e fun vs H1 T1 s1 t1 e1 i1 => fun x dx hx hdx hne => by
    obtain ⟨L, r, o, f⟩ := e1.ex
    show spMk K C P (.ref x :: (vs ++ [])) _ _ Ex
    rw [List.append_nil]
    have o1 := o.opened (o := .own x) hdx
    have hx1 : (upd T1 dx (.own x)) x = none := by rw [upd_ne (Ne.symm hne)]; exact hx
    have o2 := o1.opened (o := .ins C dx []) hx1
    refine ⟨x, dx, vs, _, H1, T1, ds, _, _, rfl, o2, i1, hx, hdx, (same_new hdx).trans (same_new hx1), hp, fun d Lc H' T' hd s' t' ic o' f' => ?_, fun _ _ _ _ _ _ h => h.elim⟩
    subst hd
    refine ⟨rfl, q (.ref x) Lc H' T' (s1.trans s') (t1.trans t') ⟨⟨L, r.up s', ?_, fun y hy => ?_⟩, e1.t0.trans t'⟩ ic⟩
    · rw [List.append_assoc]
      exact o'
    · rw [List.append_assoc] at hy
      rcases List.mem_append.mp hy with hy | hy
      · exact e1.t0.free (f' y hy)
      · exact f y hy
/-- an __init__'s body -/
theorem read_init {P : List D → (D → Prop) → (Exn → Prop) → Prop} {vs : List V} {Q : VK} {Ex : XK} {N : List Str} (h : spMk K C P vs T Q Ex)
    (hw : ∀ a ds R Z, P ds R Z → Ws K (upX Ex) t (.cl (.slf a C [] []) :: (ds.map .im ++ List.replicate (N.length - (ds.length + 1)) .no)) { nx := fun ρ' => ∃ ns l, ρ'[0]? = some (.cl (.slf a C ns l)) ∧ R (.ins C ns l), ex := fun _ => Z }) :
    t { nx := fun _ H' => Q .non H', rt := Q } (L2.start N vs) T := by
  obtain ⟨x, dx, us, M, H, T0, ds, R, Z, rfl, o, hi, hx, hdx, hs, p, k1, k2⟩ := h
  have r := EnR.start hi (N.length - (ds.length + 1))
  have e : L2.start N (.ref x :: us) = some (.ref x) :: (us.map some ++ List.replicate (N.length - (ds.length + 1)) none) := by
    unfold L2.start
    rw [List.length_cons, hi.len]
    rfl
  rw [e]
  have ic : IsC K H (.slf x C [] []) (.ref x) [(x, .ins C dx []), (dx, .own x)] := ⟨rfl, dx, [], [], rfl, rfl, rfl⟩
  have r2 := EnR.cl ic r
  refine hw x ds R Z p M T0 H T _ _ ⟨⟨_, r2, o, fun y hy => ?_⟩, hs⟩ ⟨fun ρ' σ' H' T' ⟨ns, l, q1, q2⟩ s' e' => ?_, fun _ _ _ _ q => q.elim, fun _ _ _ _ q => q.elim, fun _ _ _ _ q => q.elim, fun ρ' σ' c ns es od H' T' q s' e' hx => k2 c ns es od H' T' q s' e'.t0 e'.frame hx⟩
  · rw [List.append_nil] at hy
    have hy : y ∈ [(x, HO.ins C dx []), (dx, HO.own x)] := by simpa using hy
    rcases List.mem_cons.mp hy with rfl | hy
    · exact hx
    · have hy := List.mem_singleton.mp hy
      subst hy
      exact hdx
  · obtain ⟨x', Ls, h1, h2, h3⟩ := e'.take q1
    obtain ⟨v, rfl, hc⟩ := h2.cl1
    obtain ⟨rfl, dx', vs', Lt, rfl, hl⟩ := hc
    obtain ⟨g1, g2⟩ := EnX.give h3
    exact k1 (.ins C ns l) _ H' T' q2 s' e'.t0 ⟨x, dx', vs', Lt, rfl, rfl, hl⟩ g1 g2
end
end FS
set_option Elab.async false
set_option linter.all false
set_option maxRecDepth 100000
set_option maxHeartbeats 4000000
namespace FS
open PySem PySem.Spec PyProof.Rows L2

/-- a statement that is never reached -/
theorem ps_no {X : Cx} {st : Stmt} : PS X st tNo := ⟨fun pins s σ H D I h => h.elim⟩

/-! ### more built-ins -/
theorem vals_of_get : ∀ {xs : List V} {us : List Value}, xs.length = us.length → (∀ (i : Nat) (x : V) (u : Value), xs[i]? = some x → us[i]? = some u → RelV x u) → Vals xs us
  | [], [], _, _ => .nil
  | x :: xs, u :: us, h, q => .cons (q 0 x u rfl rfl) (vals_of_get (by simpa using h) fun i y v h1 h2 => q (i + 1) y v (by simpa using h1) (by simpa using h2))
  | [], _ :: _, h, _ => by simp at h
  | _ :: _, [], h, _ => by simp at h
section
variable {X : Cx}
def rRng1 : List V → Hp → VK → Prop := fun vs H Q => ∃ j : Int, vs = [V.int j] ∧ ∀ p, H p = none → Q (.ref p) (upd H p (.rng 0 j))
theorem cRng1 : CallR X (.type "range") rRng1 := by
  intro pins s σ H vs us Q I r h
  obtain ⟨j, rfl, q⟩ := h
  obtain ⟨u, rfl, t, rfl⟩ := vals1 r
  refine call_range_1 ⟨.ref s.heap.objs.size, upd H s.heap.objs.size (.rng 0 j), I.laid (t' := s.toks + 1 + 1) (fun b o e => Heap.get?_push_of_some _ e) (Nat.le_refl _) ?_, rfl, q _ (I.hok.fresh (Nat.le_refl _))⟩
  exact ⟨s.toks, t, s.toks + 1, Heap.get?_push_size _ rfl⟩
def rngV (n : Nat) : List V := (List.range n).map fun k : Nat => V.int (0 + (k : Int))
def rListRng : List V → Hp → VK → Prop := fun xs H Q => ∃ (p : Addr) (j : Int), xs = [.ref p] ∧ H p = some (.rng 0 j) ∧ 0 ≤ j ∧ j ≤ 100000 ∧ ∀ l, H l = none → Q (.ref l) (upd H l (.lst (rngV j.toNat)))
theorem rng_vals {n : Nat} {acc : Array Value} (h : ItemsOf (fun i v => ∃ t, v = .int (0 + i * 1) t) acc n) : Vals (rngV n) acc.toList := by
  obtain ⟨h1, h2⟩ := h
  refine vals_of_get (by rw [rngV, List.length_map, List.length_range, Array.length_toList, h1]) fun i x u hx hu => ?_
  obtain ⟨t, rfl⟩ := h2 i u (by simpa using hu)
  rw [rngV, List.getElem?_map] at hx
  obtain ⟨k, hk, rfl⟩ := Option.map_eq_some_iff.mp hx
  have : k = i := by
    have hi : i < n := by
      have := (List.getElem?_eq_some_iff.mp hk).1
      rwa [List.length_range] at this
    rw [List.getElem?_range hi] at hk
    exact (Option.some.inj hk).symm
  subst this
  refine ⟨t, ?_⟩
  rw [Int.mul_one]
theorem cListRng (hc : X.A.handled = none) : CallR X (.type "list") rListRng := by
  intro pins s σ H xs us Q I r h
  obtain ⟨p, j, rfl, hp, h0, h1, q⟩ := h
  obtain ⟨u, rfl, rx⟩ := vals1 r
  cases rx
  obtain ⟨t, v, w, hr⟩ := (show ObjOk X.prog X.w H s.heap p (.rng 0 j) from I.hok p _ hp)
  have hn : Builtin.Range.rangeSize 0 j 1 = ((j.toNat : Nat) : Int) := by rw [rangeSize_one]; split <;> omega
  refine call_list_range hc hr (small_one (by decide) (by decide) (by omega) (by omega)) hn (by omega) fun h' tk acc' c' kp e it => ?_
  refine ⟨.ref s.heap.objs.size, _, I.laid (t' := tk) kp (Nat.le_refl _) (show ObjOk X.prog X.w _ h' _ (.lst (rngV j.toNat)) from ⟨?_, acc'.toList, c', rng_vals it, by simpa using e⟩), rfl, q _ (I.hok.fresh (Nat.le_refl _))⟩
  rw [rngV, List.length_map, List.length_range]
  have : (100000 : Nat) ≤ sizeLine := by decide
  omega
end
section
variable {K : PySem.W.Frag} {E : L2.WX} {ρ : Rho} {P : Pst} {te ta tb to : TE} {tz : TS} {tt : TT} {d s x y z : D} {l l' : List D} {ds : List D} {tr : TA} {i j : Nat}
theorem isL_rng {H : Hp} (n : Nat) : IsL K H (rng 0 n) (rngV n) := by
  unfold rng rngV
  generalize List.range n = r
  induction r with
  | nil => exact (rfl : [] = [])
  | cons a r ih => exact ⟨_, _, rfl, rfl, ih⟩
/-- list(range(n)) -/
theorem evo_rng {n : Int} (h : EvA K tr ρ [.int n]) (h0 : 0 ≤ n) (h1 : n ≤ 100000) : EvO K (tCB rListRng (tCons (tCB rRng1 tr) tNil)) ρ (rng 0 n.toNat) := fun M T0 H T σ X Q e q =>
  h M T0 H T σ X _ e fun vs H1 T1 s1 t1 e1 i1 => by
    obtain ⟨v, rfl, hv⟩ := isL_one i1
    refine ⟨n, by rw [show v = V.int n from hv], fun p hp => ?_⟩
    obtain ⟨s2, e2⟩ := e1.new (o := .rng 0 n) hp
    refine ⟨p, n, rfl, upd_same, h0, h1, fun p2 hp2 => ?_⟩
    exact q p2 _ _ _ (s1.trans s2) (t1.trans ((same_new hp).trans (same_new hp2))) (e2.opened hp2) (isL_rng _)
/-! sums and the like -/
theorem seq_of {H T : Hp} {v : V} {ns : List Int} (h : Is K H (.lst (ns.map .int)) v) (s : Same H T) : ∃ a, v = .ref a ∧ SqL K T a (ns.map V.int) := by
  obtain ⟨a, vs, rfl, h1, h2⟩ := h
  rw [isL_ints_inv h2] at h1
  exact ⟨a, rfl, .inl (.inl (s _ _ h1))⟩
theorem rc_sum {ns : List Int} : RcD K (rSum K) [.lst (ns.map .int)] (.int ns.sum) := fun H T vs Q s h q => by
  obtain ⟨v, rfl, hv⟩ := isL_one h
  obtain ⟨a, rfl, hq⟩ := seq_of hv s
  exact ⟨a, ns, rfl, hq, q _ rfl⟩
theorem rc_max {ns : List Int} {m : Int} (hm : m ∈ ns) (h0 : ∀ y ∈ ns, y ≤ m) : RcD K (rMax K) [.lst (ns.map .int)] (.int m) := fun H T vs Q s h q => by
  obtain ⟨v, rfl, hv⟩ := isL_one h
  obtain ⟨a, rfl, hq⟩ := seq_of hv s
  refine ⟨a, ns, rfl, hq, List.length_pos_of_mem hm, fun k hk h1 => ?_⟩
  have : k = m := Int.le_antisymm (h0 k hk) (h1 m hm)
  rw [this]
  exact q _ rfl
theorem rc_min {ns : List Int} {m : Int} (hm : m ∈ ns) (h0 : ∀ y ∈ ns, m ≤ y) : RcD K (rMin K) [.lst (ns.map .int)] (.int m) := fun H T vs Q s h q => by
  obtain ⟨v, rfl, hv⟩ := isL_one h
  obtain ⟨a, rfl, hq⟩ := seq_of hv s
  refine ⟨a, ns, rfl, hq, List.length_pos_of_mem hm, fun k hk h1 => ?_⟩
  have : k = m := Int.le_antisymm (h1 m hm) (h0 k hk)
  rw [this]
  exact q _ rfl
theorem sorted_uniq : ∀ {l l' : List Int}, l'.Perm l → l'.Pairwise (· ≤ ·) → l.Pairwise (· ≤ ·) → l' = l := fun h h1 h2 => List.Perm.eq_of_pairwise (fun a b _ _ x y => Int.le_antisymm x y) h1 h2 h
theorem rco_sorted {ns ns' : List Int} (hp : ns'.Perm ns) (hs : ns'.Pairwise (· ≤ ·)) : RcO K (rSortedI K) [.lst (ns.map .int)] (ns'.map .int) := fun H T vs Q s h q => by
  obtain ⟨v, rfl, hv⟩ := isL_one h
  obtain ⟨a, rfl, hq⟩ := seq_of hv s
  refine ⟨a, ns, rfl, hq, fun zs p h1 h2 hn => ?_⟩
  have : zs = ns' := sorted_uniq (h1.trans hp.symm) h2 hs
  rw [this]
  exact q p _ hn (isL_ints _)
theorem is_bls {H : Hp} : ∀ {bs : List Bool} {vs : List V}, IsL K H (bs.map .bl) vs → vs = bs.map V.bl
  | [], _, h => h
  | n :: r, _, ⟨v, q, e, h1, h2⟩ => by rw [e, show v = V.bl n from h1, is_bls h2] <;> rfl
theorem rc_any {bs : List Bool} : RcD K (rAny K) [.lst (bs.map .bl)] (.bl (bs.any id)) := fun H T vs Q s h q => by
  obtain ⟨v, rfl, a, us, rfl, h1, h2⟩ := isL_one h
  rw [is_bls h2] at h1
  exact ⟨a, bs, rfl, .inl (.inl (s _ _ h1)), q _ rfl⟩
theorem rc_all {bs : List Bool} : RcD K (rAll K) [.lst (bs.map .bl)] (.bl (bs.all id)) := fun H T vs Q s h q => by
  obtain ⟨v, rfl, a, us, rfl, h1, h2⟩ := isL_one h
  rw [is_bls h2] at h1
  exact ⟨a, bs, rfl, .inl (.inl (s _ _ h1)), q _ rfl⟩
theorem inV_int {x : Int} : ∀ {ns : List Int}, inV (.int x) (ns.map V.int) = decide (x ∈ ns)
  | [] => by simp [inV]
  | n :: r => by
    have ih := inV_int (x := x) (ns := r)
    unfold inV at ih ⊢
    rw [List.map_cons, List.any_cons, ih]
    by_cases h : n = x
    · subst h
      simp [eqV]
    · have h' : ¬ x = n := fun e => h e.symm
      have : eqV (.int n) (.int x) = false := by simp [eqV, h]
      rw [this]
      simp [h']
theorem flat_ints {ns : List Int} : (ns.map V.int).all flatV = true := by
  induction ns with
  | nil => rfl
  | cons a r ih => rw [List.map_cons, List.all_cons, ih] <;> rfl
theorem rv_in {x : Int} {ns : List Int} : RvD K (rIn K false) (.int x) (.lst (ns.map .int)) (.bl (decide (x ∈ ns))) := fun H T vx vy Q s h1 h2 q => by
  obtain ⟨a, rfl, hq⟩ := seq_of h2 s
  refine ⟨a, _, rfl, .inl hq, by rw [show vx = V.int x from h1] <;> rfl, flat_ints, ?_⟩
  rw [show vx = V.int x from h1, inV_int]
  exact q _ rfl
theorem rv_notin {x : Int} {ns : List Int} : RvD K (rIn K true) (.int x) (.lst (ns.map .int)) (.bl (!decide (x ∈ ns))) := fun H T vx vy Q s h1 h2 q => by
  obtain ⟨a, rfl, hq⟩ := seq_of h2 s
  refine ⟨a, _, rfl, .inl hq, by rw [show vx = V.int x from h1] <;> rfl, flat_ints, ?_⟩
  rw [show vx = V.int x from h1, inV_int]
  exact q _ rfl
/-! extend -/
theorem ws_ext (e : ρ[i]? = some (.ow l)) (hv : EvD K te ρ (.lst l')) (hz : l.length + l'.length ≤ 100000) (h : P.nx (ρ.set i (.ow (l ++ l')))) : Ws K E (tDrop (tBM K "list" rExtend (tVar i) (tCons te tNil))) ρ P := fun M T0 H T σ Dn en k => by
  obtain ⟨p, vs, h1, h2, h4, _⟩ := en.own e
  refine ⟨.ref p, h1, .inl ⟨rfl, vs, .inl (.inl h2)⟩, hv M T0 H T σ [] _ en fun v H' T' s t' e' ⟨a, us, ev, g1, g2⟩ => ?_⟩
  subst ev
  obtain ⟨p', vs', q1, q2, q4, q5, _⟩ := e'.own e
  rw [h1] at q1
  cases q1
  exact ⟨p, a, vs', us, rfl, rfl, q2, e'.same _ _ g1, by rw [q4.len, g2.len]; exact Nat.le_trans hz (by decide), k.nx _ _ _ _ h s (q5 _ _ (q4.app g2))⟩
theorem wq_ext (e : ρ[i]? = some (.ow l)) (hv : EvD K te ρ (.lst l')) (hz : l.length + l'.length ≤ 100000) (h : Ws K E tz (ρ.set i (.ow (l ++ l'))) P) : Ws K E (tSeq (tDrop (tBM K "list" rExtend (tVar i) (tCons te tNil))) tz) ρ P := ws_seq (ws_ext e hv hz h)
theorem wq_appP {π : List Nat} (e : ρ[i]? = some (.cl d)) (hp : EvL K to ρ i π) (hd : D.at π d = some (.lst l)) (hv : EvC K te ρ x) (hz : l.length < 100000) (h : Ws K E tz (ρ.set i (.cl (D.put π d (.lst (l ++ [x]))))) P) :
    Ws K E (tSeq (tDrop (tBM K "list" rAppend to (tCons te tNil))) tz) ρ P := ws_seq (ws_appP e hp hd hv hz h)
theorem wq_fld {C a : Addr} {ns : List Str} {f : Str} (e : ρ[i]? = some (.cl (.slf a C ns l))) (hv : EvC K te ρ x) (hn : ns.length = l.length) (hf : f ∉ ns) (hz : ns.length < 1000) (c : Cls K C) (n : NoAttr K C f) (h : Ws K E tz (ρ.set i (.cl (.slf a C (ns ++ [f]) (l ++ [x])))) P) :
    Ws K E (tSeq (sFld K (tVar i) te f) tz) ρ P := ws_seq (ws_fld e hv hn hf hz c n h)

/-! ### dicts with int keys -/
def ik (ks : List Int) : List Key := ks.map .inl
theorem valV_zip : ∀ {ks : List Int} {vs : List V} {x : Int}, ks.length = vs.length → valV ((ik ks).zip vs) (.inl x) = (ks.findIdx? (· == x)).bind (vs[·]?)
  | [], [], x, _ => rfl
  | k :: ks, v :: vs, x, h => by
    have ih := valV_zip (ks := ks) (vs := vs) (x := x) (by simpa using h)
    show valV ((Sum.inl k, v) :: (ik ks).zip vs) (.inl x) = _
    rw [List.findIdx?_cons]
    by_cases e : k = x
    · subst e
      rw [valV_pos rfl]
      simp
    · rw [valV_neg (by simpa using e), ih]
      have : (k == x) = false := by simpa using e
      rw [this]
      simp only [Bool.false_eq_true, if_false]
      cases ks.findIdx? (· == x) <;> rfl
  | [], _ :: _, _, h => by simp at h
  | _ :: _, [], _, h => by simp at h
theorem ec_dnew : EvC K tDNewK ρ (.dic (ik []) []) := fun M T0 H T σ X Q e q => fun p hp => q (.ref p) [(p, .dK [])] H _ (Same.refl _) (same_new hp) (e.opened hp) ⟨p, [], [], rfl, rfl, rfl, rfl⟩
/-- x in d, d open -/
theorem dic_open {M X : Op} {T0 H T : Hp} {σ : L2.St} {ks : List Key} (en : EnX K M T0 H T σ ρ X) (e : ρ[i]? = some (.cl (.dic ks l))) : ∃ a vs Lt L0, σ[i]? = some (some (.ref a)) ∧ T a = some (.dK (ks.zip vs)) ∧ vs.length = l.length ∧ IsCL K H l vs Lt ∧
    EnX K M T0 H T σ (ρ.set i .no) (((a, .dK (ks.zip vs)) :: Lt) ++ (L0 ++ X)) ∧
    ∀ H' T' X' s' Ls', Same H H' → EnX K M T0 H' T' σ (ρ.set i .no) (Ls' ++ (L0 ++ X')) → IsC K H' s' (.ref a) Ls' → EnX K M T0 H' T' σ (ρ.set i (.cl s')) X' := by
  obtain ⟨v, u, Ls, L0, h1, ⟨a, vs, Lt, eu, eL, hl⟩, h3, h4, h5⟩ := en.spot (π := []) e rfl
  have ev : v = u := h3
  subst ev
  subst eu
  subst eL
  exact ⟨a, vs, Lt, L0, h1, h4.here rfl (a, .dK (ks.zip vs)) List.mem_cons_self, hl.len, hl, h4, h5⟩
theorem et_notind {ks : List Int} {xv : Int} (e : ρ[i]? = some (.cl (.dic (ik ks) l))) (hl : ks.length = l.length) (hv : EvD K te ρ (.int xv)) : EvD K (tDNotIn te (tVar i)) ρ (.bl (!decide (xv ∈ ks))) := fun M T0 H T σ X Q en q =>
  hv M T0 H T σ X _ en fun v H1 T1 s1 t1 e1 i1 => by
    obtain ⟨a, vs, Lt, L0, h1, h2, h3, _⟩ := dic_open e1 e
    refine ⟨.ref a, h1, a, valV ((ik ks).zip vs) (.inl xv), rfl, ?_, ?_⟩
    · rw [show v = kV (.inl xv) from i1]
      exact DGet.k h2
    · rw [valV_zip (by omega)]
      have : ((ks.findIdx? (· == xv)).bind (vs[·]?)).isSome = decide (xv ∈ ks) := by
        by_cases hm : xv ∈ ks
        · have hi : ks.findIdx? (· == xv) = some (ks.findIdx (· == xv)) := by
            rw [List.findIdx?_eq_some_iff_findIdx_eq]
            exact ⟨List.findIdx_lt_length_of_exists ⟨xv, hm, by simp⟩, rfl⟩
          have hlt : ks.findIdx (· == xv) < vs.length := by
            have := List.findIdx_lt_length_of_exists (p := (· == xv)) ⟨xv, hm, by simp⟩
            omega
          rw [hi, decide_eq_true hm]
          show (vs[ks.findIdx (· == xv)]?).isSome = true
          rw [List.getElem?_eq_getElem hlt] <;> rfl
        · have hi : ks.findIdx? (· == xv) = none := by
            rw [List.findIdx?_eq_none_iff]
            intro y hy
            simp only [beq_eq_false_iff_ne, ne_eq]
            exact fun z => hm (z ▸ hy)
          rw [hi, decide_eq_false hm] <;> rfl
      rw [this]
      exact q _ H1 T1 s1 t1 e1 rfl
theorem putK_new : ∀ {ks : List Int} {vs : List V} {x : Int} {v : V}, ks.length = vs.length → x ∉ ks → putK ((ik ks).zip vs) (.inl x) v = (ik (ks ++ [x])).zip (vs ++ [v]) := by
  intro ks vs x v h hn
  have ha : (((ik ks).zip vs).any fun kv => decide (kv.1 = (Sum.inl x : Key))) = false := by
    rw [List.any_eq_false]
    intro p hp
    have := (List.of_mem_zip (show (p.1, p.2) ∈ (ik ks).zip vs from hp)).1
    simp only [decide_eq_true_eq]
    intro z
    rw [z] at this
    obtain ⟨y, hy, ey⟩ := List.mem_map.mp this
    cases ey
    exact hn hy
  unfold putK
  rw [ha]
  simp only [Bool.false_eq_true, if_false]
  unfold ik
  rw [List.map_append, List.zip_append (by rw [List.length_map, h])]
  rfl
/-- d[x] = e, x new -/
theorem ws_dput {ks : List Int} {xv : Int} (e : ρ[i]? = some (.cl (.dic (ik ks) l))) (hl : ks.length = l.length) (hz : ks.length < 100000) (hn : xv ∉ ks) (hv : EvD K te ρ d) (hs : d.sc = true) (hx : EvD K tb ρ (.int xv)) (h : P.nx (ρ.set i (.cl (.dic (ik (ks ++ [xv])) (l ++ [d]))))) :
    Ws K E (sDPut (tVar i) tb te) ρ P := fun M T0 H T σ Dn en k =>
  hv M T0 H T σ [] _ en fun v H1 T1 s1 t1 e1 i1 => by
    obtain ⟨a, vs, Lt, L0, h1, _⟩ := dic_open e1 e
    refine ⟨.ref a, h1, hx M T0 H1 T1 σ [] _ e1 fun w H2 T2 s2 t2 e2 i2 => ?_⟩
    obtain ⟨a2, vs2, Lt2, L02, g1, g2, g3, g4, g5, g6⟩ := dic_open e2 e
    rw [h1] at g1
    cases g1
    refine ⟨a, upd T2 a (.dK ((ik (ks ++ [xv])).zip (vs2 ++ [v]))), rfl, ?_, ?_⟩
    · rw [show w = kV (.inl xv) from i2, ← putK_new (by omega) hn]
      refine DPut.k g2 ?_
      have : (100000 : Nat) ≤ sizeLine := by decide
      rw [List.length_zip]
      unfold ik
      rw [List.length_map]
      omega
    · refine k.nx _ σ H2 _ h (s1.trans s2) (g6 H2 _ [] (.dic (ik (ks ++ [xv])) (l ++ [d])) ((a, .dK ((ik (ks ++ [xv])).zip (vs2 ++ [v]))) :: (Lt2 ++ [])) (Same.refl _) ?_ ⟨a, _, _, rfl, rfl, g4.app (.one ((i1.up s2).sc hs))⟩)
      have g7 := EnX.write (o' := .dK ((ik (ks ++ [xv])).zip (vs2 ++ [v]))) g5
      rw [List.append_nil]
      exact g7
/-- d[x], d known -/
theorem ev_dget {ks : List Int} {xv : Int} {jj : Nat} (hd : EvD K ta ρ (.dic (ik ks) l)) (hx : EvD K tb ρ (.int xv)) (hl : ks.length = l.length) (hj : ks.findIdx? (· == xv) = some jj) (hg : l[jj]? = some d) : EvD K (tDGet ta tb) ρ d := fun M T0 H T σ X Q en q =>
  hd M T0 H T σ X _ en fun v H1 T1 s1 t1 e1 ⟨a, vs, ev, g1, g2⟩ => hx M T0 H1 T1 σ X _ e1 fun w H2 T2 s2 t2 e2 i2 => by
    subst ev
    obtain ⟨u, g3, g4⟩ := g2.get hg
    refine ⟨a, u, rfl, ?_, q u H2 T2 (s1.trans s2) (t1.trans t2) e2 (g4.up s2)⟩
    have := DGet.k (k := .inl xv) (e2.same _ _ (s2 _ _ g1))
    rw [valV_zip (by rw [hl, g2.len]), hj] at this
    rw [show w = kV (.inl xv) from i2]
    rw [show (some jj).bind (vs[·]?) = some u from g3] at this
    exact this
end

/-! ### methods and makers that stand -/
structure FnM (P : Program) (w : World) (K : PySem.W.Frag) (mg : Str → Option Value) (base : Heap) (CX : CXT) (k : Nat) (C : Addr) (m : Str) (ps : List Str) (sp : Sp) : Prop where
  ex : ∃ f fd, FnOk P w K mg base CX k f fd ps sp ∧ Meth K C m f ∧ Binds K fd ps []
structure FnI (P : Program) (w : World) (K : PySem.W.Frag) (mg : Str → Option Value) (base : Heap) (CX : CXT) (k : Nat) (C : Addr) (x : Str) (ps : List Str) (sp : Sp) : Prop where
  ex : ∃ f fd, FnOk P w K mg base CX k f fd ps sp ∧ Mk K C f ∧ mg x = some (.ref C) ∧ Binds K fd ps []
section
variable {X : Cx} {CX : CXT} {k : Nat} {sp : Sp} {E : XK} {x m : Str} {o e : Expr} {es : List Expr} {t : TA} {ta : TE} {p apos pos : Pos} {ps : List Str} {C : Addr}
theorem pe_m {pl : Sem Bool} (G : FnM X.prog X.w X.K X.mg X.base CX k C m ps sp) (c : Cls X.K C) (hr : Room k X.A) (hx : Passes CX X E) (he : PE X o ta) (ha : PA X (e :: es) t)
    (hst : starEach (e :: es) X.env = (false, eval e X.env) :: starEach es X.env := by rfl) (hpl : (backTo pos (starEach es X.env)).any (·.1) = false := by rfl)
    (ht : eval (.Call (.Attribute o m apos) (e :: es) [] pos) X.env = (do
      let ov ← eval o X.env
      standAt apos.atName
      let (f, first) ← holding [ov] (getMethod ov m pl)
      callWith pos f first (backTo pos (starEach (e :: es) X.env)) (backToKw pos (keywordEach [] X.env))) := by rfl) : PE X (.Call (.Attribute o m apos) (e :: es) [] pos) (tMeth C m sp [] E ta t) := by
  obtain ⟨f, fd, F, hm, hb⟩ := G.ex
  exact pe_meth he c hm F hr hb .nil hx ha hst hpl ht
theorem pe_m0 {pl : Sem Bool} (G : FnM X.prog X.w X.K X.mg X.base CX k C m ps sp) (c : Cls X.K C) (hr : Room k X.A) (hx : Passes CX X E) (he : PE X o ta)
    (ht : eval (.Call (.Attribute o m apos) [] [] pos) X.env = (do
      let ov ← eval o X.env
      standAt apos.atName
      let (f, first) ← holding [ov] (getMethod ov m pl)
      callWith pos f first (backTo pos (starEach [] X.env)) (backToKw pos (keywordEach [] X.env))) := by rfl) : PE X (.Call (.Attribute o m apos) [] [] pos) (tMeth C m sp [] E ta tNil) := by
  obtain ⟨f, fd, F, hm, hb⟩ := G.ex
  exact pe_meth0 he c hm F hr hb .nil hx ht
theorem pe_mk (G : FnI X.prog X.w X.K X.mg X.base CX k C x ps sp) (hr : Room (k + 1) X.A) (hx : Passes CX X E) (ha : PA X (e :: es) t) (hg : Gl X x := by rfl) (hdb : (x == ("__debug__" : Str)) = false := by decide)
    (he : starEach (e :: es) X.env = (false, eval e X.env) :: starEach es X.env := by rfl) (hpl : (backTo pos (starEach es X.env)).any (·.1) = false := by rfl) : PE X (.Call (.Name x p) (e :: es) [] pos) (tMake C sp [] E t) := by
  obtain ⟨f, fd, F, hm, hC, hb⟩ := G.ex
  exact pe_make hm F hr hg hC hb .nil hx ha hdb he hpl
end
section
variable {P : Program} {w : World} {K : PySem.W.Frag} {mg : Str → Option Value} {base : Heap} {x m qual : Str} {st : Stmt} {N ps : List Str} {k : Nat} {Pr : PrD} {C : Addr}
/-- a method's facts -/
structure Dm (K : PySem.W.Frag) (C : Addr) (m qual : Str) (st : Stmt) (ps : List Str) : Prop where
  ex : ∃ f fd, Fun K m qual st f fd ∧ Meth K C m f ∧ Binds K fd ps []
/-- an __init__'s -/
structure Di (K : PySem.W.Frag) (mg : Str → Option Value) (C : Addr) (x qual : Str) (st : Stmt) (ps : List Str) : Prop where
  ex : ∃ f fd, Fun K "__init__" qual st f fd ∧ Mk K C f ∧ mg x = some (.ref C) ∧ Binds K fd ps []
theorem Dm.ok (F : Dm K C m qual st ps) (S : FnScope N ps (defScope st)) (len : ∀ ds R Z, Pr ds R Z → ds.length = ps.length)
    (hbody : ∀ (f : Addr) (cdv : Value) (A : Around) (outer : List Env) (s : Shared) (H : Hp) (E : XK), Room k (A.deeper (envOfC qual (defScope st) s.heap.objs.size f cdv)) →
      ∃ t, PSs (cxOf CX0 P w K mg base N qual (defScope st) f cdv A outer s H E).nox (defBody st) t ∧ ∀ ds R Z, Pr ds R Z → Ws K (upX E) t (ds.map .im ++ List.replicate (N.length - ds.length) .no) { nx := fun _ => R (.im .non), rt := R, ex := fun _ => Z }) :
    FnM P w K mg base CX0 (k + 1) C m ps (spD K Pr) := by
  obtain ⟨f, fd, F, hm, hb⟩ := F.ex
  refine ⟨f, fd, F.ok S (fun vs H Q E h => len_fn len h) (fun cdv A outer s H vs Q E hr h => ?_), hm, hb⟩
  obtain ⟨t, h1, h2⟩ := hbody f cdv A outer s H E hr
  exact ⟨t, h1, read_fn h h2⟩
theorem len_mk {P : List D → (D → Prop) → (Exn → Prop) → Prop} {n : Nat} (hl : ∀ ds R Z, P ds R Z → ds.length + 1 = n) {vs : List V} {T : Hp} {Q : VK} {E : XK} (h : spMk K C P vs T Q E) : vs.length = n := by
  obtain ⟨x, dx, us, M, H, T0, ds, R, Z, rfl, o, hi, _, _, _, p, _⟩ := h
  rw [List.length_cons, hi.len]
  exact hl ds R Z p
theorem Di.ok {Pm : List D → (D → Prop) → (Exn → Prop) → Prop} (F : Di K mg C x qual st ps) (S : FnScope N ps (defScope st)) (len : ∀ ds R Z, Pm ds R Z → ds.length + 1 = ps.length)
    (hbody : ∀ (f : Addr) (cdv : Value) (A : Around) (outer : List Env) (s : Shared) (H : Hp) (E : XK), Room k (A.deeper (envOfC qual (defScope st) s.heap.objs.size f cdv)) →
      ∃ t, PSs (cxOf CX0 P w K mg base N qual (defScope st) f cdv A outer s H E).nox (defBody st) t ∧ ∀ a ds R Z, Pm ds R Z → Ws K (upX E) t (.cl (.slf a C [] []) :: (ds.map .im ++ List.replicate (N.length - (ds.length + 1)) .no)) { nx := fun ρ' => ∃ ns l, ρ'[0]? = some (.cl (.slf a C ns l)) ∧ R (.ins C ns l), ex := fun _ => Z }) :
    FnI P w K mg base CX0 (k + 1) C x ps (spMk K C Pm) := by
  obtain ⟨f, fd, F, hm, hC, hb⟩ := F.ex
  refine ⟨f, fd, F.ok S (fun vs H Q E h => len_mk len h) (fun cdv A outer s H vs Q E hr h => ?_), hm, hC, hb⟩
  obtain ⟨t, h1, h2⟩ := hbody f cdv A outer s H E hr
  exact ⟨t, h1, read_init h h2⟩
end
end FS
set_option Elab.async false
set_option linter.all false
set_option maxRecDepth 100000
set_option maxHeartbeats 4000000
namespace FS
open PySem PySem.Spec PyProof.Rows L2
/-! ### more short words for derivations -/
section
variable {X : Cx} (K : PySem.W.Frag)
theorem cListRngC (hc : X.calm = true) : CallR X (.type "list") rListRng := fun pins s σ H xs us Q I r h => cListRng (I.ok.hd hc) pins s σ H xs us Q I r h
theorem kSum (hc : X.calm = true) (hK : X.K = K := by rfl) : CallR X (.builtin "sum") (rSum K) := hK ▸ cr_sum hc
theorem kMax (hc : X.calm = true) (hK : X.K = K := by rfl) : CallR X (.builtin "max") (rMax K) := hK ▸ cr_max hc
theorem kMin (hc : X.calm = true) (hK : X.K = K := by rfl) : CallR X (.builtin "min") (rMin K) := hK ▸ cr_min hc
theorem kAny (hc : X.calm = true) (hK : X.K = K := by rfl) : CallR X (.builtin "any") (rAny K) := hK ▸ cr_any hc
theorem kAll (hc : X.calm = true) (hK : X.K = K := by rfl) : CallR X (.builtin "all") (rAll K) := hK ▸ cr_all hc
theorem kSorted (hK : X.K = K := by rfl) : CallR X (.builtin "sorted") (rSortedI K) := hK ▸ cr_sortedI
def rLenD : List V → Hp → VK → Prop := fun xs H Q => ∃ a kvs, xs = [V.ref a] ∧ H a = some (.dK kvs) ∧ Q (.int kvs.length) H
theorem kLenD : CallR X (.builtin "len") rLenD := call_lenD
theorem fl {o : Expr} {f : Str} {pos : Pos} {ta : TE} (he : PE X o ta) (hK : X.K = K := by rfl) (hb : attributeBase o f X.env (eval o X.env) = eval o X.env := by rfl) : PE X (.Attribute o f pos) (tFld K ta f) := hK ▸ pe_fld he hb
theorem fs {o value : Expr} {f : Str} {pos pos' : Pos} {ta tv : TE} (ha : PE X o ta) (hv : PE X value tv) (hK : X.K = K := by rfl) (hs : swapsWith value (some (.Attribute o f pos')) pos.line X.env = pure false := by rfl) : PS X (.Assign [.Attribute o f pos'] value pos) (sFld K ta tv f) := hK ▸ ps_fld ha hv hs
theorem ml_extend {o e : Expr} {to : TE} {ta : TA} {apos cpos : Pos} (ho : PE X o to) (ha : PA X [e] ta) (hK : X.K = K := by rfl) (hbase : attributeBase o "extend" X.env (eval o X.env) = eval o X.env := by rfl)
    (hfew : ((backTo cpos (starEach [e] X.env)).all (fun x => !x.1) && (backToKw cpos (keywordEach [] X.env)).all (fun x => x.1.isSome)
      && decide ([e].length + ([] : List Keyword).length + (if ([] : List Keyword).isEmpty then 0 else 1) < 30)) = true := by rfl)
    (hline : (apos.endLine == cpos.line) = true := by rfl) (hs : starEach [e] X.env = (false, eval e X.env) :: starEach [] X.env := by rfl) (hplain : (backTo cpos (starEach [] X.env)).any (·.1) = false := by rfl) :
    PE X (.Call (.Attribute o "extend" apos) [e] [] cpos) (tBM K "list" rExtend to ta) := hK ▸ pe_bm PySem.F.plainAttrs_list PySem.F.slot_list_extend PySem.F.type_list_extend mt_extend ho ha hbase hfew hline hs hplain
end
section
variable {X : Cx}
/-- a name of the module that is an int -/
theorem gl {x : Str} {i : Int} {pos : Pos} (h : ∃ t, X.mg x = some (.int i t)) (hg : Gl X x := by rfl) (hd : (x == ("__debug__" : Str)) = false := by decide) : PE X (.Name x pos) (tC (.int i)) := by
  obtain ⟨t, h⟩ := h
  exact pe_glob hg h ⟨t, rfl⟩ hd
theorem dput {o i value : Expr} {pos pos' : Pos} {td ty tv : TE} (hu : X.A.units + 64 < cLine) (ho : PE X o td) (hi : PE X i ty) (hv : PE X value tv) (hs : swapsWith value (some (.Subscript o i pos')) pos.line X.env = pure false := by rfl) : PS X (.Assign [.Subscript o i pos'] value pos) (sDPut td ty tv) := ps_dput (by omega) ho hi hv hs
theorem din {o i : Expr} {td ty : TE} (hu : X.A.units + 64 < cLine) (hi : PE X i ty) (ho : PE X o td) : PC X .In i o (tDIn ty td) := pc_din (by omega) hi ho
theorem dnotin {o i : Expr} {td ty : TE} (hu : X.A.units + 64 < cLine) (hi : PE X i ty) (ho : PE X o td) : PC X .NotIn i o (tDNotIn ty td) := pc_dnotin (by omega) hi ho
theorem dget {o i : Expr} {pos : Pos} {td ty : TE} (hu : X.A.units + 64 < cLine) (ho : PE X o td) (hi : PE X i ty) (hs : NoSl i := by exact fun _ _ => rfl) : PE X (.Subscript o i pos) (tDGet td ty) := pe_dget (by omega) ho hi hs
end
section
variable {K : PySem.W.Frag} {ρ : Rho} {i : Nat} {l : List D} {ks : List Key}
theorem ev_lenD (e : ρ[i]? = some (.cl (.dic ks l))) (hl : ks.length = l.length) : EvD K (tCB rLenD (tCons (tVar i) tNil)) ρ (.int (l.length : Int)) := fun M T0 H T σ X Q en q => by
  obtain ⟨a, vs, Lt, L0, h1, h2, h3, _⟩ := dic_open en e
  refine ⟨.ref a, h1, a, _, rfl, h2, q _ H T (Same.refl _) (Same.refl _) en ?_⟩
  show V.int _ = V.int _
  rw [List.length_zip, h3, hl, Nat.min_self]
end
end FS
set_option Elab.async false
set_option linter.all false
set_option maxRecDepth 100000
set_option maxHeartbeats 4000000
set_option exponentiation.threshold 20000
namespace FS
/-! ### drawn numbers -/
def drawsBig : Int → List Int → List Int
  | _, [] => []
  | r, s :: t => r % s :: drawsBig (r / s) t
def drawsLow : Int → Int → List Int → List Int
  | _, _, [] => []
  | seed, k, s :: t => ((((seed * 48271 + 11 * k + 7) % 2147483647) * 69621 + 3 * k + 1) % 2147483629 / 7) % s :: drawsLow ((seed * 48271 + 11 * k + 7) % 2147483647) (k + 1) t
def draws (c : Int) (sizes : List Int) : List Int := if (1000000000000000000 : Int) ≤ c then drawsBig (c - 1000000000000000000) sizes else drawsLow (c % 2147483647) 0 sizes
theorem drawsBig_len : ∀ (s : List Int) (r : Int), (drawsBig r s).length = s.length
  | [], _ => rfl
  | _ :: t, _ => by rw [drawsBig, List.length_cons, List.length_cons, drawsBig_len t]
theorem drawsLow_len : ∀ (s : List Int) (r k : Int), (drawsLow r k s).length = s.length
  | [], _, _ => rfl
  | _ :: t, _, _ => by rw [drawsLow, List.length_cons, List.length_cons, drawsLow_len t]
theorem draws_len (c : Int) (s : List Int) : (draws c s).length = s.length := by
  unfold draws
  split
  · exact drawsBig_len _ _
  · exact drawsLow_len _ _ _
theorem drawsBig_bd : ∀ (s : List Int) (r : Int) (i : Nat), (∀ x ∈ s, 0 < x) → i < s.length → 0 ≤ (drawsBig r s).getD i 0 ∧ (drawsBig r s).getD i 0 < s.getD i 0
  | [], _, _, _, h => by simp at h
  | x :: t, r, 0, hp, _ => by
    have := hp x List.mem_cons_self
    exact ⟨Int.emod_nonneg _ (by omega), Int.emod_lt_of_pos _ this⟩
  | x :: t, r, i + 1, hp, h => by
    have := drawsBig_bd t (r / x) i (fun y hy => hp y (List.mem_cons_of_mem _ hy)) (by simpa using h)
    simpa [drawsBig] using this
theorem drawsLow_bd : ∀ (s : List Int) (r k : Int) (i : Nat), (∀ x ∈ s, 0 < x) → i < s.length → 0 ≤ (drawsLow r k s).getD i 0 ∧ (drawsLow r k s).getD i 0 < s.getD i 0
  | [], _, _, _, _, h => by simp at h
  | x :: t, r, k, 0, hp, _ => by
    have := hp x List.mem_cons_self
    exact ⟨Int.emod_nonneg _ (by omega), Int.emod_lt_of_pos _ this⟩
  | x :: t, r, k, i + 1, hp, h => by
    have := drawsLow_bd t ((r * 48271 + 11 * k + 7) % 2147483647) (k + 1) i (fun y hy => hp y (List.mem_cons_of_mem _ hy)) (by simpa using h)
    simpa [drawsLow] using this
theorem draws_bd (c : Int) (s : List Int) (i : Nat) (hp : ∀ x ∈ s, 0 < x) (h : i < s.length) : 0 ≤ (draws c s).getD i 0 ∧ (draws c s).getD i 0 < s.getD i 0 := by
  unfold draws
  split
  · exact drawsBig_bd _ _ _ hp h
  · exact drawsLow_bd _ _ _ _ hp h

/-! ### Euclid's turns: x, y behind i turns -/
structure Eu (a b x y i : Nat) : Prop where
  g : Nat.gcd x y = Nat.gcd a b
  z : i = 0 → x = a ∧ y = b
  s : 1 ≤ i → y < x ∨ (x = 0 ∧ y = 0 ∧ b = 0) ∨ y = 0
  p : 1 ≤ i → x * y * 2 ^ (i - 1) ≤ b * b
theorem Eu.start (a b : Nat) : Eu a b a b 0 := ⟨rfl, fun _ => ⟨rfl, rfl⟩, fun h => by omega, fun h => by omega⟩
theorem Eu.turn {a b x y i : Nat} (h : Eu a b x y i) (hy : y ≠ 0) : Eu a b y (x % y) (i + 1) := by
  refine ⟨?_, fun h => by omega, fun _ => .inl (Nat.mod_lt _ (by omega)), fun _ => ?_⟩
  · rw [← h.g, Nat.gcd_comm x y, Nat.gcd_rec y x, Nat.gcd_comm]
  · by_cases hi : i = 0
    · obtain ⟨rfl, rfl⟩ := h.z hi
      subst hi
      have : x % y ≤ y := Nat.le_of_lt (Nat.mod_lt _ (by omega))
      show y * (x % y) * 2 ^ 0 ≤ y * y
      rw [Nat.pow_zero, Nat.mul_one]
      exact Nat.mul_le_mul_left _ this
    · have hp := h.p (by omega)
      have hs : y < x := by
        rcases h.s (by omega) with q | ⟨_, q, _⟩ | q
        · exact q
        · exact absurd q hy
        · exact absurd q hy
      have h2 : 2 * (x % y) ≤ x := by
        have e := Nat.div_add_mod x y
        have h1 : x % y < y := Nat.mod_lt _ (by omega)
        have h3 : 1 ≤ x / y := Nat.div_pos (by omega) (by omega)
        have h4 : y * 1 ≤ y * (x / y) := Nat.mul_le_mul_left y h3
        omega
      have e : i + 1 - 1 = (i - 1) + 1 := by omega
      rw [e, Nat.pow_succ]
      calc y * (x % y) * (2 ^ (i - 1) * 2) = y * (2 * (x % y)) * 2 ^ (i - 1) := by
            rw [Nat.mul_comm (2 ^ (i - 1)) 2, ← Nat.mul_assoc, Nat.mul_assoc y (x % y) 2, Nat.mul_comm (x % y) 2]
        _ ≤ y * x * 2 ^ (i - 1) := Nat.mul_le_mul_right _ (Nat.mul_le_mul_left _ h2)
        _ = x * y * 2 ^ (i - 1) := by rw [Nat.mul_comm y x]
        _ ≤ b * b := hp
theorem Eu.stop {a b x y i : Nat} (h : Eu a b x y i) (hy : y = 0) : x = Nat.gcd a b := by rw [← h.g, hy, Nat.gcd_zero_right]
/-- behind enough turns nothing is left -/
theorem Eu.done {a b x y n k : Nat} (h : Eu a b x y n) (hb : b < 2 ^ k) (hn : 2 * k + 1 ≤ n) : y = 0 := by
  rcases Nat.eq_zero_or_pos y with q | q
  · exact q
  · exfalso
    have hp := h.p (by omega)
    have hx : 1 ≤ x := by
      rcases h.s (by omega) with z | ⟨_, z, _⟩ | z <;> omega
    have h1 : 1 ≤ x * y := Nat.mul_pos hx q
    have h2 : 2 ^ (n - 1) ≤ x * y * 2 ^ (n - 1) := Nat.le_mul_of_pos_left _ h1
    have h3 : b * b < 2 ^ (2 * k) := by
      rw [Nat.two_mul, Nat.pow_add]
      exact Nat.mul_lt_mul'' hb hb
    have h4 : 2 ^ (2 * k) ≤ 2 ^ (n - 1) := Nat.pow_le_pow_right (by decide) (by omega)
    omega

/-! ### numbers -/
abbrev Num := Int × Int
def numD (x : Num) : D := .tup [.int x.1, .int x.2]
def mk (n d : Int) : Num := (n / (Nat.gcd n.natAbs d.natAbs : Nat), d / (Nat.gcd n.natAbs d.natAbs : Nat))
/-- a number of at most k bits above and below -/
structure Good (k : Nat) (x : Num) : Prop where
  pos : 0 < x.2
  up : x.1.natAbs < 2 ^ k
  dn : x.2 < 2 ^ k
  co : Nat.gcd x.1.natAbs x.2.natAbs = 1
theorem gcd_pos' {n d : Int} (h : 0 < d) : 0 < Nat.gcd n.natAbs d.natAbs := Nat.gcd_pos_of_pos_right _ (by omega)
theorem natAbs_div {n : Int} {g : Nat} (hg : 0 < g) (hd : g ∣ n.natAbs) : (n / (g : Int)).natAbs = n.natAbs / g := by
  have : (g : Int) ∣ n := Int.ofNat_dvd_left.mpr hd
  rw [Int.natAbs_ediv_of_dvd this, Int.natAbs_natCast]
theorem mk_good {n d : Int} {k : Nat} (h : 0 < d) (hn : n.natAbs < 2 ^ k) (hd : d < 2 ^ k) : Good k (mk n d) := by
  have g0 := gcd_pos' (n := n) h
  have e1 : (mk n d).1.natAbs = n.natAbs / Nat.gcd n.natAbs d.natAbs := natAbs_div g0 (Nat.gcd_dvd_left _ _)
  have e2 : (mk n d).2.natAbs = d.natAbs / Nat.gcd n.natAbs d.natAbs := natAbs_div g0 (Nat.gcd_dvd_right _ _)
  have hdd : ((Nat.gcd n.natAbs d.natAbs : Nat) : Int) ∣ d := Int.ofNat_dvd_left.mpr (Nat.gcd_dvd_right _ _)
  refine ⟨?_, ?_, ?_, ?_⟩
  · exact Int.ediv_pos_of_pos_of_dvd h (by omega) hdd
  · rw [e1]
    exact Nat.lt_of_le_of_lt (Nat.div_le_self _ _) hn
  · refine Int.lt_of_le_of_lt ?_ hd
    exact Int.ediv_le_self _ (by omega)
  · rw [e1, e2, Nat.gcd_div (Nat.gcd_dvd_left _ _) (Nat.gcd_dvd_right _ _)]
    exact Nat.div_self g0
end FS
set_option Elab.async false
set_option linter.all false
set_option maxRecDepth 100000
set_option maxHeartbeats 4000000
namespace FS
open PySem PySem.Spec PyProof.Rows L2
/-! ### the end -/
section
variable {P : Program} {w : World} {K : PySem.W.Frag} {mg : Str → Option Value} {base h : Heap} {x : Str} {st : Stmt} {f : Addr} {fd : FuncData} {N ps : List Str} {k : Nat} {Pr : PrD}
theorem df_of {oc : Value} {od an : Option Addr} {osl : Array (Option Value)} {kV doc pm cdv ct : Value} (X : K.In h) (G : h.Ns mainGlobals mg) (a : PySem.W.nsIn K mainGlobals x = some (some (.ref f))) (l : K.lookup f = some ⟨oc, od, .func (PySem.W.fnOf x x (defArgs st) (defBody st) (defScope st) .none kV doc pm an cdv ct), osl⟩)
    (c : PySem.W.codeIn K cdv x = true) (k : PySem.W.keepIn K (.ref f) = true) (b : ∀ (kV doc pm : Value) (an : Option Addr) (cdv ct : Value) (us : List Value), us.length = ps.length → bindArgs (PySem.W.fnOf x x (defArgs st) (defBody st) (defScope st) .none kV doc pm an cdv ct) ⟨us, []⟩ = pure (ps.zip us)) : Df K mg x st ps :=
  ⟨f, _, fun_mk l c k, PySem.W.mg_of X G a, (fun_mk l c k).binds b⟩
theorem okD (F : Fun K x x st f fd) (S : FnScope N ps (defScope st)) (len : ∀ ds R Z, Pr ds R Z → ds.length = ps.length)
    (hbody : ∀ (f : Addr) (cdv : Value) (A : Around) (outer : List Env) (s : Shared) (H : Hp) (E : XK), Room k (A.deeper (envOfC x (defScope st) s.heap.objs.size f cdv)) →
      ∃ t, PSs (cxOf CX0 P w K mg base N x (defScope st) f cdv A outer s H E).nox (defBody st) t ∧ ∀ ds R Z, Pr ds R Z → Ws K (upX E) t (ds.map .im ++ List.replicate (N.length - ds.length) .no) { nx := fun _ => R (.im .non), rt := R, ex := fun _ => Z }) :
    FnOk P w K mg base CX0 (k + 1) f fd ps (spD K Pr) :=
  F.ok S (fun vs H Q E h => len_fn len h) fun cdv A outer s H vs Q E hr h => by
    obtain ⟨t, h1, h2⟩ := hbody f cdv A outer s H E hr
    exact ⟨t, h1, read_fn h h2⟩
/-- what is asked of a law -/
def P_law : PrD := fun ds R _ => ∃ ns : List Int, ds = [.scr ns] ∧ R (.im (.bl true))
theorem sp_law {H : Hp} {a : Addr} {ns : List Int} (hS : SqL K H a (ns.map V.int)) : spD K P_law [.ref a] H (fun v _ => v = .bl true) fun _ _ _ => False :=
  ⟨[], H, [.scr ns], fun s => s = .im (.bl true), fun _ => False, Opn.all, .one ⟨a, rfl, hS⟩, ⟨ns, rfl, rfl⟩, fun s v H' T' hs _ _ hr => by
    subst hs
    exact hr.1, fun _ _ _ _ _ _ h => h.elim⟩
theorem law_end {k : Nat} {l : PySem.W.OpenLaw} {oc : Value} {od an : Option Addr} {osl : Array (Option Value)} {kV doc pm cdv ct : Value} {fa : Addr} (X : K.In h) (G : h.Ns mainGlobals mg) (hfa : mg "law" = some (.ref fa)) (a : PySem.W.nsIn K mainGlobals "law" = some (some (.ref f))) (lk : K.lookup f = some ⟨oc, od, .func (PySem.W.fnOf "law" "law" (defArgs st) (defBody st) (defScope st) .none kV doc pm an cdv ct), osl⟩)
    (c : PySem.W.codeIn K cdv "law" = true) (kp : PySem.W.keepIn K (.ref f) = true) (CX : CXT)
    (b : ∀ (s : Shared) (v : Value), BindsTo s (PySem.W.fnOf "law" "law" (defArgs st) (defBody st) (defScope st) .none kV doc pm an cdv ct) ⟨[v], []⟩ [("script", v)])
    (ok : ∀ (fd : FuncData) (base : Heap), Fun K "law" "law" st f fd → FnOk l.prog w K mg base CX k f fd ["script"] (spD K P_law)) :
    ∃ fd : FuncData, (∀ (s : Shared) (v : Value), BindsTo s fd ⟨[v], []⟩ [("script", v)]) ∧ ∀ base : Heap, K.In base → base.Ns mainGlobals mg → FnOk l.prog w K mg base CX k fa fd ["script"] (spD K P_law) := by
  have e := hfa.symm.trans (PySem.W.mg_of X G a)
  cases e
  exact ⟨_, b, fun base _ _ => ok _ base (fun_mk lk c kp)⟩
end
end FS
set_option Elab.async false
set_option linter.all false
set_option maxRecDepth 100000
set_option maxHeartbeats 4000000
set_option exponentiation.threshold 20000
namespace FS
open PySem PySem.Spec PyProof.Rows L2
theorem map_get {α : Type} {f : α → D} {l : List α} {i : Nat} {d : D} (h : (l.map f)[i]? = some d) : ∃ x, l[i]? = some x ∧ d = f x := by
  rw [List.getElem?_map] at h
  cases e : l[i]? with
  | none => rw [e] at h; cases h
  | some x =>
    rw [e] at h
    exact ⟨x, rfl, (Option.some.inj h).symm⟩
theorem drop_get {α : Type} {l : List α} {i : Nat} {x : α} (h : l[i]? = some x) : l.drop i = x :: l.drop (i + 1) := by
  obtain ⟨hi, e⟩ := List.getElem?_eq_some_iff.mp h
  rw [List.drop_eq_getElem_cons hi, e]
theorem ws_cut {K : PySem.W.Frag} {E : L2.WX} {t u : TS} {ρ : Rho} {P : Pst} (ρm : Rho) (h : Ws K E t ρ { P with nx := fun ρ' => ρ' = ρm }) (h2 : Ws K E u ρm P) : Ws K E (tSeq t u) ρ P :=
  ws_seq (ws_mono h (fun ρ' e => by rw [show ρ' = ρm from e]; exact h2) (fun _ q => q) (fun _ q => q) (fun _ q => q) fun _ _ q => q)
/-- .. where some slots are told loosely -/
theorem ws_mid {K : PySem.W.Frag} {E : L2.WX} {t u : TS} {ρ : Rho} {P : Pst} (I : Rho → Prop) (h : Ws K E t ρ { P with nx := I }) (h2 : ∀ ρ', I ρ' → Ws K E u ρ' P) : Ws K E (tSeq t u) ρ P :=
  ws_seq (ws_mono h (fun ρ' q => h2 ρ' q) (fun _ q => q) (fun _ q => q) (fun _ q => q) fun _ _ q => q)
def cell (ns : List Int) (k : Int) : Int := if k < ns.length then ns.getD k.toNat 0 else 31 * k + 5
theorem cdiv_200 {i j : Int} (h : 0 < j) (h2 : j < 2 ^ 200) : CDivW i j := wide_div (b := 200) h (by omega) (by decide) (by decide)
theorem scal_ints (l : List Int) : ∀ d ∈ l.map D.int, d.sc = true := by
  intro d hd
  obtain ⟨x, _, rfl⟩ := List.mem_map.mp hd
  rfl
theorem cast_lt {a k : Nat} (h : a < 2 ^ k) : (a : Int) < 2 ^ k := by exact_mod_cast h
theorem abs_lt {d : Int} {k : Nat} (h0 : 0 ≤ d) (h : d < 2 ^ k) : d.natAbs < 2 ^ k := by
  have : (d.natAbs : Int) < ((2 ^ k : Nat) : Int) := by
    rw [Int.natAbs_of_nonneg h0]
    exact_mod_cast h
  exact_mod_cast this
theorem div_up {f : Nat} {d : Int} {k : Nat} (h : f < 2 ^ k) (hd : 0 < d) : ((f : Int) / d).natAbs < 2 ^ k := by
  have e : ((f : Int) / d) = ((f / d.natAbs : Nat) : Int) := by
    have : d = ((d.natAbs : Nat) : Int) := by omega
    rw [Int.natCast_ediv, ← this]
  rw [e, Int.natAbs_natCast]
  exact Nat.lt_of_le_of_lt (Nat.div_le_self _ _) h
theorem EvC.is {K : PySem.W.Frag} {ρ : Rho} {te : TE} {x y : D} (h : EvC K te ρ x) (e : x = y) : EvC K te ρ y := e ▸ h
theorem ev_er {K : PySem.W.Frag} {ρ : Rho} {te : TE} {d : D} (h : EvD K te ρ d) : EvD K te ρ d.er := fun M T0 H T σ X Q e q => h M T0 H T σ X _ e fun v H1 T1 s1 t1 e1 i1 => q v H1 T1 s1 t1 e1 (Is.er d v i1)
theorem erL_kn {α : Type} {f : α → D} : ∀ l : List α, D.erL (l.map fun x => .kn (f x)) = l.map f
  | [] => rfl
  | x :: l => by rw [List.map_cons, List.map_cons, D.erL, erL_kn l] <;> rfl
/-! rows of numbers -/
def intsD (l : List Int) : D := .lst (l.map .int)
def natsD (l : List Nat) : D := .lst (l.map fun n : Nat => .int (n : Int))
def nats (l : List Nat) : List Int := l.map fun n : Nat => (n : Int)
theorem natsD_eq (l : List Nat) : natsD l = intsD (nats l) := by
  unfold natsD intsD nats
  rw [List.map_map]
  rfl
theorem rng_nats (n : Nat) : rng 0 n = (nats (List.range n)).map .int := by
  unfold rng nats
  rw [List.map_map]
  refine List.map_congr_left fun k _ => ?_
  show D.int (0 + (k : Int)) = D.int (k : Int)
  rw [Int.zero_add]
theorem mem_nats {l : List Nat} {x : Nat} : (x : Int) ∈ nats l ↔ x ∈ l := by
  unfold nats
  rw [List.mem_map]
  exact ⟨fun ⟨y, h, e⟩ => by rw [← Int.ofNat.inj e]; exact h, fun h => ⟨x, h, rfl⟩⟩
theorem at_nats {l : List Nat} {k x : Nat} (h : l[k]? = some x) : atI (l.map fun n : Nat => D.int (n : Int)) (k : Int) = some (.int (x : Int)) := at_map (f := fun n : Nat => D.int (n : Int)) h
theorem kf_ints (l : List Int) : (intsD l).kf = true := D.kf_lst fun d hd => D.sc_kf (scal_ints l d hd)
/-- what a filter leaves when one more is looked at -/
theorem filter_range_succ {n : Nat} {p : Nat → Bool} : (List.range (n + 1)).filter p = (List.range n).filter p ++ if p n then [n] else [] := by
  rw [List.range_succ, List.filter_append, List.filter_cons]
  cases p n <;> rfl
theorem rv_p9 {K : PySem.W.Frag} : RvD K rPowA (.int 10) (.int 9) (.int 1000000000) := rv_pow ⟨by decide, by decide, by decide⟩ (by decide)
theorem rv_p31 {K : PySem.W.Frag} : RvD K rPowA (.int 10) (.int 31) (.int 10000000000000000000000000000000) := rv_pow ⟨by decide, by decide, by decide⟩ (by decide)
theorem rv_p51 {K : PySem.W.Frag} : RvD K rPowA (.int 10) (.int 51) (.int 1000000000000000000000000000000000000000000000000000) := rv_pow ⟨by decide, by decide, by decide⟩ (by decide)
end FS
set_option Elab.async false
set_option linter.all false
set_option maxRecDepth 100000
set_option maxHeartbeats 4000000
/-! Errors with fields: made, raised, caught, asked. -/
namespace FS
open PySem PySem.Spec PyProof.Rows L2

/-! ### Up.__init__(self, ..), Up an own class over ValueError that has no __init__ -/
structure UpC (K : PySem.W.Frag) (mg : Str → Option Value) (x : Str) (CF : Addr) : Prop where
  mg : mg x = some (.ref CF)
  rd : PySem.W.readsIn K CF (.type "type") = true
  ga : PySem.W.specialIn K (.ref CF) "__getattribute__" = some (some (.builtin "type.__getattribute__"))
  fi : PySem.W.findCls K (.ref CF) (.type "type") "__init__" = some (.val (.builtin "ValueError.__init__"))
section
variable {X : Cx} {e : Expr} {es : List Expr} {ta : TA} {x : Str} {CF : Addr} {p1 p2 pos : Pos}
theorem pe_up {pl : Sem Bool} (U : UpC X.K X.mg x CF) (hg : Gl X x) (ha : PA X (e :: es) ta) (hdb : (x == ("__debug__" : Str)) = false := by decide)
    (hc : eval (.Call (.Attribute (.Name x p1) "__init__" p2) (e :: es) [] pos) X.env = (eval (.Name x p1) X.env >>= fun ov => standAt p2.atName >>= fun _ => holding [ov] (getMethod ov "__init__" pl) >>= fun r => callWith pos r.1 r.2 (backTo pos (starEach (e :: es) X.env)) (backToKw pos (keywordEach [] X.env))) := by rfl)
    (hs : starEach (e :: es) X.env = (false, eval e X.env) :: starEach es X.env := by rfl) (hpl : (backTo pos (starEach es X.env)).any (·.1) = false := by rfl) : PE X (.Call (.Attribute (.Name x p1) "__init__" p2) (e :: es) [] pos) (tVeI X.K ta) := ⟨fun pins s σ H Q I h => by
  refine PySem.W.methodCall_KW (pl := pl) (ld_glob I hg U.mg (PySem.W.method_cls I.kIn U.ga (PySem.W.cls_value I.kIn U.rd U.fi rfl ?_)) hdb) hc
  refine PyProof.Rows.callWith_method1 (id := "ValueError.__init__") (thn (ha.run pos pins _ σ H _ (I.tok _) h) ?_) hs hpl
  rintro us s1 ⟨vs, H1, I1, r1, a, C, ws, ev, hl, T, ea, q⟩
  subst ev
  match us, r1 with
  | _, .cons ra rr =>
    cases (show _ = Value.ref a from ra)
    have hz : _ ≤ 1000 := rr.length ▸ hl
    exact oinit_ok T I1 ea (Nat.le_trans hz (by decide)) fun s' J => ⟨.non, H1, J, rfl, q⟩⟩
end

/-! ### an __init__ that keeps its arguments -/
/-- the exception at a, its fields told from the last one on -/
def xmade (H : Hp) (a C dx : Addr) (fs : List (Str × V)) : Hp := upd (upd H dx (exd dx fs)) a (exo a C (some dx))
def spXI (C : Addr) (ns : List Str) : Sp := fun vs H Q _ => ∃ (a : Addr) (ws : List V), vs = .ref a :: ws ∧ ws.length = ns.length ∧ H a = some (exo a C none) ∧ ∀ dx, H dx = none → dx ≠ a → Q .non (xmade H a C dx (ns.reverse.zip ws.reverse))
theorem xmade_more {H : Hp} {a C dx : Addr} {fs fs' : List (Str × V)} (h : dx ≠ a) : upd (xmade H a C dx fs) dx (exd dx fs') = xmade H a C dx fs' := by
  funext b
  unfold xmade
  by_cases h1 : b = dx
  · subst h1
    rw [upd_same, upd_ne h, upd_same]
  · rw [upd_ne h1]
    by_cases h2 : b = a
    · subst h2
      rw [upd_same, upd_same]
    · rw [upd_ne h2, upd_ne h2, upd_ne h1, upd_ne h1]
section
variable {K : PySem.W.Frag} {C : Addr} {f g : Str} {H : Hp} {vs : List V} {Q : VK} {E : XK} {m : Str}
/-- the body's reading: one field -/
theorem xi_1 (T : OexC K C) (n1 : PySem.W.findIn K (.ref C) f = some none) (h : spXI C [f] vs H Q E) :
    tSeq (tDrop (tVeI K (tCons (tVar 0) (tCons (tC (.str m)) tNil)))) (tOst K f (tVar 0) (tVar 1)) { nx := fun _ H' => Q .non H', rt := Q } (L2.start ["self", f] vs) H := by
  obtain ⟨a, ws, rfl, hl, ha, q⟩ := h
  obtain ⟨w, rfl⟩ := List.length_eq_one_iff.mp hl
  refine ⟨.ref a, rfl, a, C, [.str m], rfl, by simp, T, ha, ?_⟩
  exact ⟨w, rfl, .ref a, rfl, a, C, rfl, T, n1, .inl ⟨ha, fun dx h1 h2 => q dx h1 h2⟩⟩
theorem xi_2 (T : OexC K C) (n1 : PySem.W.findIn K (.ref C) f = some none) (n2 : PySem.W.findIn K (.ref C) g = some none) (h : spXI C [f, g] vs H Q E) :
    tSeq (tDrop (tVeI K (tCons (tVar 0) (tCons (tC (.str m)) tNil)))) (tSeq (tOst K f (tVar 0) (tVar 1)) (tOst K g (tVar 0) (tVar 2))) { nx := fun _ H' => Q .non H', rt := Q } (L2.start ["self", f, g] vs) H := by
  obtain ⟨a, ws, rfl, hl, ha, q⟩ := h
  obtain ⟨w, u, rfl⟩ : ∃ w u, ws = [w, u] := by
    match ws, hl with
    | [w, u], _ => exact ⟨w, u, rfl⟩
  refine ⟨.ref a, rfl, a, C, [.str m], rfl, by simp, T, ha, ?_⟩
  refine ⟨w, rfl, .ref a, rfl, a, C, rfl, T, n1, .inl ⟨ha, fun dx h1 h2 => ?_⟩⟩
  refine ⟨u, rfl, .ref a, rfl, a, C, rfl, T, n2, .inr ⟨dx, [(f, w)], upd_same, ?_, by simp, ?_⟩⟩
  · rw [upd_ne h2, upd_same]
  · have := q dx h1 h2
    rw [← xmade_more (fs := [(f, w)]) h2] at this
    exact this
end

/-! ### a class of errors -/
/-- an own class with an __init__ of its own -/
structure Dx (K : PySem.W.Frag) (mg : Str → Option Value) (x : Str) (C : Addr) (qual : Str) (st : Stmt) (ps : List Str) : Prop where
  ex : ∃ f fd, Fun K "__init__" qual st f fd ∧ PySem.W.findIn K (.ref C) "__init__" = some (some (.ref f)) ∧ PySem.W.typeIn K (.ref f) = some (.type "function") ∧ Binds K fd ps []
  mg : mg x = some (.ref C)
  oex : OexC K C
/-- .. that stands: it keeps the fields ns -/
structure FnX (P : Program) (w : World) (K : PySem.W.Frag) (mg : Str → Option Value) (base : Heap) (k : Nat) (x : Str) (C : Addr) (ns : List Str) : Prop where
  ex : ∃ f fd ps, FnOk P w K mg base CX0 k f fd ps (spXI C ns) ∧ PySem.W.findIn K (.ref C) "__init__" = some (some (.ref f)) ∧ PySem.W.typeIn K (.ref f) = some (.type "function") ∧ Binds K fd ps []
  mg : mg x = some (.ref C)
  oex : OexC K C
section
variable {P : Program} {w : World} {K : PySem.W.Frag} {mg : Str → Option Value} {base : Heap} {x qual f g m : Str} {st : Stmt} {C : Addr}
theorem Dx.ok1 (F : Dx K mg x C qual st ["self", f]) (S : FnScope ["self", f] ["self", f] (defScope st)) (n1 : PySem.W.findIn K (.ref C) f = some none)
    (hbody : ∀ (f' : Addr) (cdv : Value) (A : Around) (outer : List Env) (s : Shared) (H : Hp) (E : XK), Room 0 (A.deeper (envOfC qual (defScope st) s.heap.objs.size f' cdv)) →
      PSs (cxOf CX0 P w K mg base ["self", f] qual (defScope st) f' cdv A outer s H E).nox (defBody st) (tSeq (tDrop (tVeI K (tCons (tVar 0) (tCons (tC (.str m)) tNil)))) (tOst K f (tVar 0) (tVar 1)))) : FnX P w K mg base 1 x C [f] := by
  obtain ⟨f', fd, F', h1, h2, hb⟩ := F.ex
  refine ⟨⟨f', fd, _, F'.ok S (fun vs H Q E h => ?_) (fun cdv A outer s H vs Q E hr h => ⟨_, hbody f' cdv A outer s H E hr, xi_1 F.oex n1 h⟩), h1, h2, hb⟩, F.mg, F.oex⟩
  obtain ⟨a, ws, rfl, hl, _⟩ := h
  rw [List.length_cons, hl]
  rfl
theorem Dx.ok2 (F : Dx K mg x C qual st ["self", f, g]) (S : FnScope ["self", f, g] ["self", f, g] (defScope st)) (n1 : PySem.W.findIn K (.ref C) f = some none) (n2 : PySem.W.findIn K (.ref C) g = some none)
    (hbody : ∀ (f' : Addr) (cdv : Value) (A : Around) (outer : List Env) (s : Shared) (H : Hp) (E : XK), Room 0 (A.deeper (envOfC qual (defScope st) s.heap.objs.size f' cdv)) →
      PSs (cxOf CX0 P w K mg base ["self", f, g] qual (defScope st) f' cdv A outer s H E).nox (defBody st) (tSeq (tDrop (tVeI K (tCons (tVar 0) (tCons (tC (.str m)) tNil)))) (tSeq (tOst K f (tVar 0) (tVar 1)) (tOst K g (tVar 0) (tVar 2))))) : FnX P w K mg base 1 x C [f, g] := by
  obtain ⟨f', fd, F', h1, h2, hb⟩ := F.ex
  refine ⟨⟨f', fd, _, F'.ok S (fun vs H Q E h => ?_) (fun cdv A outer s H vs Q E hr h => ⟨_, hbody f' cdv A outer s H E hr, xi_2 F.oex n1 n2 h⟩), h1, h2, hb⟩, F.mg, F.oex⟩
  obtain ⟨a, ws, rfl, hl, _⟩ := h
  rw [List.length_cons, hl]
  rfl
end
section
variable {X : Cx} {k : Nat} {x : Str} {C f : Addr} {ns ps : List Str} {sp : Sp} {fd : FuncData} {e : Expr} {es : List Expr} {t : TA} {p pos : Pos} {W : WX}
/-- an error with fields is made; its context is None -/
theorem pmk_xN (T : OexC X.K C) (iC : PySem.W.findIn X.K (.ref C) "__init__" = some (some (.ref f))) (tI : PySem.W.typeIn X.K (.ref f) = some (.type "function")) (F : FnOk X.prog X.w X.K X.mg X.base CX0 k f fd ps sp) (hr : Room (k + 1) X.A) (hb : Binds X.K fd ps []) (hx : Passes CX0 X (fun _ _ _ => False))
    (hg : Gl X x) (hm : X.mg x = some (.ref C)) (ha : PA X (e :: es) t) (hdb : (x == ("__debug__" : Str)) = false) (he : starEach (e :: es) X.env = (false, eval e X.env) :: starEach es X.env) (hpl : (backTo pos (starEach es X.env)).any (·.1) = false) : L2N.PMk X (.Call (.Name x p) (e :: es) [] pos) (tMkO C sp [] t) := fun pins s σ H Q I h => by
  obtain ⟨nm, qn, N, bs, bm, sn, sub, ab, col, dd, k0, k1, k2, k3, k5, hC, hbm⟩ := T.cls
  refine wpAny_Call_Name_kw (ld_glob I hg hm (PySem.W.callWith_K (h₀ := X.base) I.ok.mod.kin T.kC (thn (ha.run pos pins s σ H _ I h) ?_) he hpl) hdb)
  rintro us ⟨hp, gs, dr, tk, os⟩ ⟨vs, H1, I1, r1, hz, q1⟩
  refine ⟨I1.kIn, ?_⟩
  have hsz : hp.objs.size ≤ hp.objs.size + 1 := Nat.le_succ _
  have hq := q1 (hp.objs.size + 1) (I1.hok.fresh hsz)
  rw [List.append_nil] at hq
  have kk : ∀ b o, hp.get? b = some o → ((hp.push (PySem.W.kdv_tup us)).push (PySem.HandSPX.excO C hp.objs.size)).get? b = some o := fun b o z => Heap.get?_push_of_some _ (Heap.get?_push_of_some _ z)
  have J : Inv X pins σ (upd H1 (hp.objs.size + 1) (exo (hp.objs.size + 1) C none)) ⟨(hp.push (PySem.W.kdv_tup us)).push (PySem.HandSPX.excO C hp.objs.size), gs, dr, tk, os⟩ :=
    I1.laid (t' := tk) (h' := (hp.push (PySem.W.kdv_tup us)).push (PySem.HandSPX.excO C hp.objs.size)) kk hsz (exo_ok (t1 := hp.objs.size) (by heap_get))
  have rr : Vals (V.ref (hp.objs.size + 1) :: vs) (Value.ref (hp.objs.size + 1) :: us) := .cons rfl r1
  have hb2 := hb _ (Value.ref (hp.objs.size + 1) :: us) J.kIn (by rw [List.append_nil]; exact rr.length.symm.trans (F.len _ _ _ _ hq))
  rw [List.append_nil] at hb2
  refine wpAny_call (PySem.HandSPX.call_own PySem.F.excBase_ValueError (fun Y => PySem.HandSPX.refsVE_contains Y bm hbm) (I1.kIn _ _ hC) (PySem.W.looks_findIn I1.kIn iC) (fun self => PySem.W.bind_fn I1.kIn self tI) (Nat.le_trans (r1.length ▸ hz) (by decide))
    (codeAny_mono (F.run _ X.stack _ _ ⟨_, []⟩ _ _ _ (fun _ _ _ => False) (hr.make C us []) (J.env0.make C us []) hb2 rr hq) fun r s' z => ?_))
  match r with
  | .error er => exact hx pins σ _ _ er s' J z
  | .ok .next => exact False.elim z
  | .ok .brk => exact False.elim z
  | .ok .cont => exact False.elim z
  | .ok (.ret u) =>
    obtain ⟨v, H2, os2, bare2, un2, hok2, rv, ev, d, fs, ea, ed, hd1, q2⟩ := z
    subst ev
    obtain ⟨h2, g2, d2, t2, os'⟩ := s'
    obtain ⟨t0, G, J2, kG, ge, hoe, na⟩ := mk_end0 (d2 := d2) (t2 := t2) I1 hsz kk un2 hok2 os2 bare2 ea ed hd1
    exact ⟨rv, _, _, _, ⟨G, g2, d2, t2, os'⟩, _, .ref C, some d, rfl, J2, kG, ge, hoe, ⟨rfl, rfl, fun vs z => by cases z; rfl⟩, rfl, rfl, na, rfl, bare2, raises_own T.exC T.tyC, q2⟩
/-- raise C(e, ..) -/
theorem ps_rx (G : FnX X.prog X.w X.K X.mg X.base k x C ns) (hc : X.calm = true) (hr : Room (k + 1) X.A) (tk : L2N.Takes X W) (hx : Passes CX0 X (fun _ _ _ => False)) (ha : PA X (e :: es) t) {pos2 : Pos} (hg : Gl X x := by rfl) (hdb : (x == ("__debug__" : Str)) = false := by decide)
    (he : starEach (e :: es) X.env = (false, eval e X.env) :: starEach es X.env := by rfl) (hpl : (backTo pos (starEach es X.env)).any (·.1) = false := by rfl) :
    PS X (.Raise (some (.Call (.Name x p) (e :: es) [] pos)) none pos2) (fun _ σ H => tMkO C (spXI C ns) [] t σ H fun cls d H' => W cls d σ H') := by
  obtain ⟨f, fd, ps, F, h1, h2, hb⟩ := G.ex
  exact L2N.ps_raise hc tk (pmk_xN G.oex h1 h2 F hr hb hx hg G.mg ha hdb he hpl)
end
section
variable {K : PySem.W.Frag} {E : WX} {ρ : Rho} {P : Pst} {tr : TA} {ds : List D} {C : Addr} {ns : List Str}
theorem IsL.rev {H : Hp} : ∀ {l : List D} {vs : List V}, IsL K H l vs → IsL K H l.reverse vs.reverse
  | [], _, h => by rw [show _ = [] from h]; exact (rfl : [] = [])
  | d :: l, _, ⟨v, r, e, h1, h2⟩ => by
    rw [e, List.reverse_cons, List.reverse_cons]
    exact (IsL.rev h2).app (.one h1)
theorem ws_rx (ha : EvA K tr ρ ds) (hl : ds.length = ns.length) (hn : ns.length ≤ 900) (h : P.ex ρ (.ref C, ns.reverse, ds.reverse)) : Ws K E (fun _ σ H => tMkO C (spXI C ns) [] tr σ H fun cls d H' => E cls d σ H') ρ P := fun M T0 H T σ Dn en k =>
  ha M T0 H T σ [] _ en fun vs H1 T1 s1 t1 e1 i1 => by
    have hvl := i1.len
    refine ⟨by omega, fun a hn => ?_⟩
    rw [List.append_nil]
    refine ⟨a, vs, rfl, by omega, upd_same, fun dx h1 h2 => ?_⟩
    rw [upd_ne h2] at h1
    refine ⟨rfl, dx, ns.reverse.zip vs.reverse, upd_same, ?_, h1, ?_⟩
    · unfold xmade
      rw [upd_ne h2, upd_same]
    · have eT : upd (del (xmade (upd T1 a (exo a C none)) a C dx (ns.reverse.zip vs.reverse)) a) dx (.xd (ns.reverse.zip vs.reverse)) = upd T1 dx (.xd (ns.reverse.zip vs.reverse)) := by
        funext b
        by_cases hb : b = dx
        · subst hb
          rw [upd_same, upd_same]
        · rw [upd_ne hb, upd_ne hb]
          by_cases hb2 : b = a
          · subst hb2
            rw [del_same, hn]
          · rw [del_ne hb2]
            unfold xmade
            rw [upd_ne hb2, upd_ne hb, upd_ne hb2]
      rw [eT]
      obtain ⟨s2, e2⟩ := e1.new (o := .xd (ns.reverse.zip vs.reverse)) h1
      exact k.ex ρ σ _ _ _ (some dx) _ _ h (s1.trans s2) e2 (.inr ⟨dx, vs.reverse, rfl, upd_same, (i1.up s2).rev, e1.t0.free h1⟩)
end
end FS
set_option Elab.async false
set_option linter.all false
set_option maxRecDepth 100000
set_option maxHeartbeats 4000000
/-! A caught error asked: its class, its fields. -/
namespace FS
open PySem PySem.Spec PyProof.Rows L2

/-- __class__ of an instance of an own error class, with or without fields -/
theorem exc_class {prog : Program} {w : World} {A : Around} {E : Value → Shared → Prop} {s : Shared} {K : PySem.W.Frag} {x C : Addr} {ox : Obj} {od : Option Obj} {Q : Option Value → Shared → Prop}
    (c : ExcC K C) (kin : K.In s.heap) (J : PySem.W.InstAt s.heap x ox C od) (q : Q (some (.ref C)) { s with toks := s.toks + 1 }) : wpAny (model prog w) A (getAttr? (.ref x) "__class__") Q E s := by
  have found : PySem.W.findObj K C od "__class__" = some (.bind (.builtin "getset_descriptor.__get__") (.builtin "object.__class__")) := by
    obtain ⟨cd, hcd, _⟩ := PySem.W.any_some c.hd
    have hcd' : PySem.W.clsIn K C = some cd := hcd
    unfold PySem.W.findObj
    rw [hcd', Option.bind_some, c.ha, Option.bind_some]
    simp [c.hn, c.ht]
  obtain ⟨hp, gs, dr, tk, os⟩ := s
  have ty := J.type (M := model prog w)
  have isB : PySem.W.Looks (model prog w) hp (isInstance (.ref x) (.type "BaseException")) true := ty.andThen (PySem.W.looks_subIn kin c.hs)
  have no : (Value.builtin "BaseException.__getattribute__" == Value.builtin "object.__getattribute__") = false := by decide +kernel
  have no2 : (onTheHeap (Value.ref C) && Value.builtin "BaseException.__getattribute__" == Value.builtin "object.__getattribute__") = false := by rw [no]; rfl
  unfold getAttr? getAttrBy? getAttrBy
  refine wpAny_bind (wpAny_mkText (wpAny_bind (wpAny_attempt (wpAny_holding (wpAny_bind (ty.at (wpAny_bind ((PySem.W.looks_findIn kin c.hg).at ?_))))))))
  dsimp only
  rw [no2, if_neg Bool.false_ne_true]
  unfold getAttrByItsOwn hookBefore
  refine wpAny_bind ?_
  rw [if_pos (show onTheHeap (Value.ref C) = true from rfl)]
  refine (PySem.W.looks_findIn kin c.hk).at (wpAny_bind (wpAny_attempt (wpAny_holding ?_)))
  unfold callGetattribute
  rw [show (false && onTheHeap (Value.builtin "BaseException.__getattribute__")) = false from rfl, if_neg Bool.false_ne_true]
  unfold boundAndCalled
  rw [PySem.F.excAttr_ValueError.ga.bind (.ref x)]
  refine wpAny_bind (wpAny_pure (wpAny_call (codeAny_call_builtin PySem.F.excAttr_ValueError.ga.plain PySem.F.entry_bexc_ga ?_)))
  refine @PySem.W.check_slot (model prog w) _ _ ⟨hp, gs, dr, tk + 1, os⟩ "BaseException.__getattribute__" "BaseException" "__getattribute__" (.ref x) [.str "__class__" tk] [] _ (by decide +kernel) (by decide +kernel) isB (PySem.F.args_bexc_ga (.ref x) (.str "__class__" tk)) ?_
  unfold Builtin.«object.__getattribute__»
  refine wpAny_bind (wpAny_of_eq (a := ((Value.ref x : Value), [Value.str "__class__" tk])) (by first | rfl | (simp only [slotArgs]; rfl)) (wpAny_bind (wpAny_pure (wpAny_bind (ty.at (wpAny_bind ((PySem.W.looks_find kin J found).at ?_)))))))
  refine wpAny_bind (wpAny_holding (wpAny_call (PySem.W.class_get (s := ⟨hp, gs, dr, tk + 1, os⟩) (ox := ox) (od := od) kin J c.hm ?_)))
  refine wpAny_pure ?_
  show wpAny _ _ (handedOut (.ref C)) _ _ _
  rw [PySem.W.handedOut_of (v := .ref C) rfl]
  first
    | exact wpAny_pure (wpAny_pure q)
    | exact wpAny_pure q
    | exact wpAny_pure (wpAny_bind (wpAny_pure (wpAny_pure q)))
theorem exc_kit {K : PySem.W.Frag} {x C : Addr} {ox : Obj} {od : Option Obj} (c : ExcC K C) : PySem.W.KitX K (.ref x) (.ref C) (fun h => PySem.W.InstAt h x ox C od) := by
  have own : ∃ a b c' d, K.lookup C = some ⟨a, b, .cls c', d⟩ := by
    obtain ⟨cd, hcd, _⟩ := PySem.W.any_some c.hd
    unfold PySem.W.clsIn at hcd
    split at hcd
    · rename_i h
      exact ⟨_, _, _, _, h⟩
    · cases hcd
  obtain ⟨o1, o2, o3, o4, lk⟩ := own
  refine ⟨fun _ _ _ J => J.type, fun _ _ kin _ A' Q' E' s' k q => ?_, fun h tp dd its n sl kin htp => ?_, fun kin J q => exc_class c kin J q⟩
  · unfold isType loadHead
    exact wpAny_bind (wpAny_loadPart (k _ _ (kin _ _ lk)) (wpAny_pure q))
  · by_cases e : C = tp
    · subst e
      have z := (kin _ _ lk).symm.trans htp
      cases z
    · exact beq_eq_false_iff_ne.mpr fun q => e (Value.ref.inj q)

/-! ### in a suite -/
/-- isinstance(e, c), e the error that the suite holds -/
def rIsX (K : PySem.W.Frag) (a : Addr) (cls : Value) (d : Option Addr) : List V → Hp → VK → Prop := fun xs H Q => ∃ (c : V) (cv : Value) (b : Bool) (C : Addr), xs = [.ref a, c] ∧ ClsV c cv ∧ cls = .ref C ∧ ExcC K C ∧ (d = none ∨ ∃ dd fs, d = some dd ∧ H dd = some (.xd fs)) ∧ PySem.W.kitOne K (.ref C) cv = some b ∧ Q (.bl b) H
/-- isinstance(e, (c1, c2, ..)) -/
def rIsXT (K : PySem.W.Frag) (a : Addr) (cls : Value) (d : Option Addr) : List V → Hp → VK → Prop := fun xs H Q => ∃ (tp : Addr) (cs : List V) (us : List Value) (b : Bool) (C : Addr), xs = [.ref a, .ref tp] ∧ H tp = some (.tup cs) ∧ Paired ClsV cs us ∧ cls = .ref C ∧ ExcC K C ∧ (d = none ∨ ∃ dd fs, d = some dd ∧ H dd = some (.xd fs)) ∧ PySem.W.kitAny K (.ref C) us = some b ∧ Q (.bl b) H
section
variable {X : Cx} {a : Addr} {cls : Value} {d : Option Addr} {oe : Obj}
theorem exc_inst {C : Addr} {pins : List (Addr × Obj)} {σ : L2.St} {H : Hp} {s : Shared} (hp : (a, oe) ∈ X.pn) (hz : L2N.Zn cls d oe) (hf : ∃ vs, oe.data = .fields vs) (I : Inv X pins σ H s) (ec : cls = .ref C) (hd : d = none ∨ ∃ dd fs, d = some dd ∧ H dd = some (.xd fs)) :
    ∃ od, PySem.W.InstAt s.heap a oe C od := by
  obtain ⟨hget, _⟩ := I.pin (a, oe) (List.mem_append_left _ hp)
  obtain ⟨vs, hv⟩ := hf
  obtain ⟨h1, h2, _⟩ := hz
  have hn : PySem.W.notCls oe = true := by unfold PySem.W.notCls; rw [hv]
  rcases hd with rfl | ⟨dd, fs, rfl, hx⟩
  · exact ⟨none, hget, h1.trans ec, hn, by rw [h2]; trivial⟩
  · obtain ⟨mA, ⟨o, es, ep, ho, r⟩, _⟩ := (show ObjOk X.prog X.w H s.heap dd (.xd fs) from I.hok dd _ hx)
    exact ⟨some o, hget, h1.trans ec, hn, by rw [h2]; exact ho⟩
theorem call_isX (hp : (a, oe) ∈ X.pn) (hz : L2N.Zn cls d oe) (hf : ∃ vs, oe.data = .fields vs) : CallR X (.builtin "isinstance") (rIsX X.K a cls d) := fun pins s σ H xs us Q I r h => by
  obtain ⟨c, cv, b, C, rfl, hc, ec, hE, hd, e, q⟩ := h
  obtain ⟨od, J⟩ := exc_inst hp hz hf I ec hd
  match us, r with
  | _, .cons ra (.cons rc .nil) =>
    cases (show _ = Value.ref a from ra)
    rw [hc.eq rc]
    exact PySem.W.kia_one (exc_kit hE) I.kIn J e (fun z => nomatch z) fun tk => ⟨.bl b, H, I.tok tk, rfl, q⟩
theorem call_isXT (hp : (a, oe) ∈ X.pn) (hz : L2N.Zn cls d oe) (hf : ∃ vs, oe.data = .fields vs) : CallR X (.builtin "isinstance") (rIsXT X.K a cls d) := fun pins s σ H xs us Q I r h => by
  obtain ⟨tp, cs, ws, b, C, rfl, ht, hc, ec, hE, hd, e, q⟩ := h
  obtain ⟨od, J⟩ := exc_inst hp hz hf I ec hd
  match us, r with
  | _, .cons ra (.cons rc .nil) =>
    cases (show _ = Value.ref a from ra)
    cases (show _ = Value.ref tp from rc)
    obtain ⟨_, its, hv, o, ho, hcl, n, hda⟩ := (show ObjOk X.prog X.w H s.heap tp (.tup cs) from I.hok tp _ ht)
    have ew := ClsV.all hc hv
    subst ew
    obtain ⟨oc, od', oda, osl⟩ := o
    dsimp only at hcl hda
    subst hcl hda
    exact PySem.W.kia_tup (exc_kit hE) I.kIn J ho e (fun z => nomatch z) fun tk => ⟨.bl b, H, I.tok tk, rfl, q⟩
/-- e.f -/
def tXf2 (K : PySem.W.Frag) (a : Addr) (cls : Value) (d : Option Addr) (f : Str) (i : Nat) : TE := fun σ H Q => ∃ (C dd : Addr) (fs : List (Str × V)) (v : V), σ[i]? = some (some (.ref a)) ∧ cls = .ref C ∧ ExcC K C ∧ PySem.W.findIn K (.ref C) f = some none ∧ d = some dd ∧ H dd = some (.xd fs) ∧ fs.lookup f = some v ∧ Q v H
theorem pe_xf2 {i : Nat} {x f : Str} {p pos : Pos} (hp : (a, oe) ∈ X.pn) (hz : L2N.Zn cls d oe) (hf : ∃ vs, oe.data = .fields vs) (he : PE X (.Name x p) (tVar i)) (hb : attributeBase (.Name x p) f X.env (eval (.Name x p) X.env) = eval (.Name x p) X.env := by rfl) :
    PE X (.Attribute (.Name x p) f pos) (tXf2 X.K a cls d f i) := ⟨fun pins s σ H Q I h => by
  obtain ⟨C, dd, fs, v, e1, e2, hE, hno, e3, e4, e5, q⟩ := h
  refine attr_of hb (thn (he.run pins s σ H (fun x H1 => x = .ref a ∧ H1 = H) I ⟨.ref a, e1, rfl, rfl⟩) ?_)
  rintro u s1 ⟨x, H1, I1, rx, rfl, rfl⟩
  cases (show u = Value.ref a from rx)
  obtain ⟨hget, _⟩ := I1.pin (a, oe) (List.mem_append_left _ hp)
  obtain ⟨mA, hns, hr⟩ := (show ObjOk X.prog X.w H1 s1.heap dd (.xd fs) from I1.hok dd _ e4)
  obtain ⟨od, ho, hl⟩ := lookIn_ns hns
  obtain ⟨u, hu, ru⟩ := RelO.some_of (v := v) (o := mA f) (by rw [← e5]; exact hr f)
  obtain ⟨vs, hv⟩ := hf
  have J : PySem.W.InstAt s1.heap a oe C (some od) := ⟨hget, hz.1.trans e2, by unfold PySem.W.notCls; rw [hv], by rw [hz.2.1, e3]; exact ho⟩
  exact PySem.HandSPX.exc_get I1.kIn J hE.hg hE.hk hE.hs (PySem.W.findObj_own hE.hd hno rfl (by rw [hl, hu])) (handed_of ru) ⟨v, H1, I1.tok _, ru, q⟩⟩
end
/-! readings -/
section
variable {K : PySem.W.Frag} {ρ : Rho} {a : Addr} {cls : Value} {od : Option Addr} {ns : List Str} {ds : List D} {i : Nat} {tc : TE} {ta : TA} {C : Addr} {dc : D} {cv : Value} {b : Bool}
/-- a class as a datum -/
def clsD : D → Option Value
  | .obj C => some (.ref C)
  | .ty n => some (.type n)
  | _ => none
theorem clsD_ok {H : Hp} {v : V} (e : clsD dc = some cv) (h : Is K H dc v) : ClsV v cv := by
  cases dc <;> simp only [clsD] at e <;> try cases e
  · rw [show v = V.ty _ from h]
    exact .ty _
  · rw [show v = V.ref _ from h]
    exact .own _
theorem exc_dict {H : Hp} {v : V} (h : Is K H (.exc a od ns ds) v) : v = .ref a ∧ (od = none ∨ ∃ dd fs, od = some dd ∧ H dd = some (.xd fs)) := by
  obtain ⟨h1, h2⟩ := h
  rcases h2 with ⟨_, h2⟩ | ⟨d, vs, h2, h3, _⟩
  · exact ⟨h1, .inl h2⟩
  · exact ⟨h1, .inr ⟨d, _, h2, h3⟩⟩
theorem ev_isX (e : ρ[i]? = some (.im (.exc a od ns ds))) (hc : EvD K tc ρ dc) (hcv : clsD dc = some cv) (hE : ExcC K C) (hk : PySem.W.kitOne K (.ref C) cv = some b) : EvD K (tCB (rIsX K a (.ref C) od) (tCons (tVar i) (tCons tc tNil))) ρ (.bl b) := fun M T0 H T σ X Q en q => by
  obtain ⟨v, h1, h2⟩ := en.get e
  refine ⟨v, h1, hc M T0 H T σ X _ en fun u H1 T1 s1 t1 e1 i1 => ?_⟩
  obtain ⟨rfl, hd⟩ := exc_dict (h2.up (s1.trans e1.same))
  exact ⟨u, cv, b, C, rfl, clsD_ok hcv i1, rfl, hE, hd, hk, q _ H1 T1 s1 t1 e1 rfl⟩
theorem ev_xf {f : Str} {j : Nat} {d : D} (e : ρ[i]? = some (.im (.exc a od ns ds))) (hn : ns ≠ []) (hj : fldAt ns f = some j) (hd : ds[j]? = some d) (hE : ExcC K C) (hno : PySem.W.findIn K (.ref C) f = some none) : EvD K (tXf2 K a (.ref C) od f i) ρ d := fun M T0 H T σ X Q en q => by
  obtain ⟨v, h1, rfl, h2⟩ := en.get e
  rcases h2 with ⟨h2, _⟩ | ⟨dd, vs, h2, h3, h4⟩
  · exact absurd h2 hn
  · obtain ⟨w, g1, g2⟩ := h4.get hd
    exact ⟨C, dd, _, w, h1, rfl, hE, hno, h2, en.same _ _ h3, (fld_look hj g1).1, q w H T (Same.refl _) (Same.refl _) en g2⟩
end
end FS
set_option Elab.async false
set_option linter.all false
set_option maxRecDepth 100000
set_option maxHeartbeats 4000000
/-! Calls that may raise; try. -/
namespace FS
open PySem PySem.Spec PyProof.Rows L2

theorem passN {X : Cx} : Passes (L2N.CX X.prog X.w) X E0 := fun _ _ _ _ _ _ _ h => by
  obtain ⟨_, _, _, _, _, _, _, _, _, _, _, _, z⟩ := h
  exact z.elim
theorem takesN0 {X : Cx} : L2N.Takes X (fun _ _ _ _ => False) := fun _ _ x => by
  obtain ⟨_, _, _, _, _, _, _, _, _, _, _, _, _, _, _, _, z⟩ := x
  exact z.elim
section
variable {P : Program} {w : World} {K : PySem.W.Frag} {mg : Str → Option Value} {base : Heap} {x m qual : Str} {st : Stmt} {N ps : List Str} {k : Nat} {Pr : PrD} {C : Addr}
theorem fun_okN {f : Addr} {fd : FuncData} {sp : Sp} (F : Fun K x qual st f fd) (S : FnScope N ps (defScope st)) (len : ∀ vs H Q E, sp vs H Q E → vs.length = ps.length)
    (hbody : ∀ (cdv : Value) (A : Around) (outer : List Env) (s : Shared) (H : Hp) (vs : List V) (Q : VK) (E : XK), Room k (A.deeper (envOfC qual (defScope st) s.heap.objs.size f cdv)) → sp vs H Q E →
      ∃ t, PSs (cxOf (L2N.CX P w) P w K mg base N qual (defScope st) f cdv A outer s H E) (defBody st) t ∧ t { nx := fun _ H' => Q .non H', rt := Q } (start N vs) H) : FnOk P w K mg base (L2N.CX P w) (k + 1) f fd ps sp := by
  obtain ⟨oc, od, kV, doc, pm, an, cdv, ct, osl, rfl, lk, hcd⟩ := F.ex
  exact fn_of lk hcd S len fun A outer s H vs Q E hr q => hbody cdv A outer s H vs Q E hr q
theorem Df.okN (F : Df K mg x st ps) (S : FnScope N ps (defScope st)) (len : ∀ ds R Z, Pr ds R Z → ds.length = ps.length)
    (hbody : ∀ (f : Addr) (cdv : Value) (A : Around) (outer : List Env) (s : Shared) (H : Hp) (E : XK), Room k (A.deeper (envOfC x (defScope st) s.heap.objs.size f cdv)) →
      ∃ t, PSs (cxOf (L2N.CX P w) P w K mg base N x (defScope st) f cdv A outer s H E) (defBody st) t ∧ ∀ ds R Z, Pr ds R Z → Ws K (upX E) t (ds.map .im ++ List.replicate (N.length - ds.length) .no) { nx := fun _ => R (.im .non), rt := R, ex := fun _ => Z }) :
    FnG P w K mg base (L2N.CX P w) (k + 1) x ps (spD K Pr) := by
  obtain ⟨f, fd, F, hm, hb⟩ := F.ex
  refine ⟨f, fd, fun_okN F S (fun vs H Q E h => len_fn len h) (fun cdv A outer s H vs Q E hr h => ?_), hm, F.kp, hb⟩
  obtain ⟨t, h1, h2⟩ := hbody f cdv A outer s H E hr
  exact ⟨t, h1, read_fn h h2⟩
theorem Dm.okN (F : Dm K C m qual st ps) (S : FnScope N ps (defScope st)) (len : ∀ ds R Z, Pr ds R Z → ds.length = ps.length)
    (hbody : ∀ (f : Addr) (cdv : Value) (A : Around) (outer : List Env) (s : Shared) (H : Hp) (E : XK), Room k (A.deeper (envOfC qual (defScope st) s.heap.objs.size f cdv)) →
      ∃ t, PSs (cxOf (L2N.CX P w) P w K mg base N qual (defScope st) f cdv A outer s H E) (defBody st) t ∧ ∀ ds R Z, Pr ds R Z → Ws K (upX E) t (ds.map .im ++ List.replicate (N.length - ds.length) .no) { nx := fun _ => R (.im .non), rt := R, ex := fun _ => Z }) :
    FnM P w K mg base (L2N.CX P w) (k + 1) C m ps (spD K Pr) := by
  obtain ⟨f, fd, F, hm, hb⟩ := F.ex
  refine ⟨f, fd, fun_okN F S (fun vs H Q E h => len_fn len h) (fun cdv A outer s H vs Q E hr h => ?_), hm, hb⟩
  obtain ⟨t, h1, h2⟩ := hbody f cdv A outer s H E hr
  exact ⟨t, h1, read_fn h h2⟩
theorem Di.okN {Pm : List D → (D → Prop) → (Exn → Prop) → Prop} (F : Di K mg C x qual st ps) (S : FnScope N ps (defScope st)) (len : ∀ ds R Z, Pm ds R Z → ds.length + 1 = ps.length)
    (hbody : ∀ (f : Addr) (cdv : Value) (A : Around) (outer : List Env) (s : Shared) (H : Hp) (E : XK), Room k (A.deeper (envOfC qual (defScope st) s.heap.objs.size f cdv)) →
      ∃ t, PSs (cxOf (L2N.CX P w) P w K mg base N qual (defScope st) f cdv A outer s H E) (defBody st) t ∧ ∀ a ds R Z, Pm ds R Z → Ws K (upX E) t (.cl (.slf a C [] []) :: (ds.map .im ++ List.replicate (N.length - (ds.length + 1)) .no)) { nx := fun ρ' => ∃ ns l, ρ'[0]? = some (.cl (.slf a C ns l)) ∧ R (.ins C ns l), ex := fun _ => Z }) :
    FnI P w K mg base (L2N.CX P w) (k + 1) C x ps (spMk K C Pm) := by
  obtain ⟨f, fd, F, hm, hC, hb⟩ := F.ex
  refine ⟨f, fd, fun_okN F S (fun vs H Q E h => len_mk len h) (fun cdv A outer s H vs Q E hr h => ?_), hm, hC, hb⟩
  obtain ⟨t, h1, h2⟩ := hbody f cdv A outer s H E hr
  exact ⟨t, h1, read_init h h2⟩
end
/-- an own class of errors without an __init__ -/
structure Ep (K : PySem.W.Frag) (mg : Str → Option Value) (x : Str) (C : Addr) : Prop where
  xi : PySem.W.excIn K C [.type "ValueError", .type "Exception", .type "BaseException", .type "object"] "ValueError.__new__" = true
  mg : mg x = some (.ref C)
  kp : PySem.W.keepIn K (.ref C) = true
  sb : PySem.W.subIn K (.ref C) (.type "BaseException") = some true
  ty : PySem.W.typeIn K (.ref C) = some (.type "type")
section
variable {X : Cx} {W : WX} {k j : Nat} {x m : Str} {C : Addr} {ps : List Str} {sp : Sp} {e o : Expr} {es : List Expr} {t : TA} {ta : TE} {p p2 pos pos2 apos : Pos}
theorem ps_r0 (G : Ep X.K X.mg x C) (hc : X.calm = true) (tk : L2N.Takes X W) (hg : Gl X x := by rfl) (hdb : (x == ("__debug__" : Str)) = false := by decide) : PS X (.Raise (some (.Call (.Name x p) [.Constant (.str m) j p2] [] pos)) none pos2) (tRaise0 W (.ref C)) :=
  L2N.ps_raise hc tk (L2N.pmk_own PySem.F.excBase_ValueError G.xi G.mg G.kp (raises_own G.sb G.ty) hg hdb)
theorem pe_gX (G : FnG X.prog X.w X.K X.mg X.base (L2N.CX X.prog X.w) k x ps sp) (hr : Room k X.A) (tk : L2N.Takes X W) (ha : PA X (e :: es) t) (hg : Gl X x := by rfl) (hdb : (x == ("__debug__" : Str)) = false := by decide)
    (he : starEach (e :: es) X.env = (false, eval e X.env) :: starEach es X.env := by rfl) (hpl : (backTo pos (starEach es X.env)).any (·.1) = false := by rfl) : PE X (.Call (.Name x p) (e :: es) [] pos) (tCallS sp (WE W) t) := by
  obtain ⟨f, fd, F, hm, hk, hb⟩ := G.ex
  exact pe_callS F hr hg hm hk hb (fun σ => L2N.passAt tk σ) ha hdb he hpl
/-- the receiver ahead of the arguments -/
def tRecv (C : Addr) (m : Str) (ta : TE) (tr : TA) : TA := fun σ H Q => ta σ H fun x H1 => ∃ a dx fs, x = .ref a ∧ H1 a = some (.ins C dx fs) ∧ fs.lookup m = none ∧ tr σ H1 fun vs H2 => Q (x :: vs) H2
theorem pe_mX {pl : Sem Bool} (G : FnM X.prog X.w X.K X.mg X.base (L2N.CX X.prog X.w) k C m ps sp) (c : Cls X.K C) (hr : Room k X.A) (tk : L2N.Takes X W) (he : PE X o ta) (ha : PA X (e :: es) t)
    (hst : starEach (e :: es) X.env = (false, eval e X.env) :: starEach es X.env := by rfl) (hpl : (backTo pos (starEach es X.env)).any (·.1) = false := by rfl)
    (ht : eval (.Call (.Attribute o m apos) (e :: es) [] pos) X.env = (eval o X.env >>= fun ov => standAt apos.atName >>= fun _ => holding [ov] (getMethod ov m pl) >>= fun r => callWith pos r.1 r.2 (backTo pos (starEach (e :: es) X.env)) (backToKw pos (keywordEach [] X.env))) := by rfl) :
    PE X (.Call (.Attribute o m apos) (e :: es) [] pos) (tCallS sp (WE W) (tRecv C m ta t)) := ⟨fun pins s σ H Q I h => by
  obtain ⟨f, fd, F, hm, hb⟩ := G.ex
  refine PySem.W.methodCall_KW (pl := pl) (thn (he.run pins s σ H _ I h) ?_) ht
  rintro u s1 ⟨x, H1, I1, rx, a, dx, fs, rfl, ea, l, q⟩
  cases (show u = Value.ref a from rx)
  refine getmeth_ok I1 ea c hm l (PySem.W.callWith_K (first := [.ref a]) (h₀ := X.base) I.ok.mod.kin hm.kp (thn (ha.run pos pins s1 σ H1 _ I1 q) ?_) hst hpl)
  rintro us s2 ⟨vs, H2, I2, r, q2⟩
  exact ⟨I2.kIn, run_fnS (E := WE W) (us := .ref a :: us) (vs := .ref a :: vs) F hr hb (L2N.passAt tk σ) I2 (.cons rfl r) q2⟩⟩
/-- C(e, ..), its __init__ may raise -/
def tMakeW (C : Addr) (sp : Sp) (W : WX) (t : TA) : TE := fun σ H Q => tMake C sp [] (WE W σ) t σ H Q
theorem pe_mkX (G : FnI X.prog X.w X.K X.mg X.base (L2N.CX X.prog X.w) k C x ps sp) (hr : Room (k + 1) X.A) (tk : L2N.Takes X W) (ha : PA X (e :: es) t) (hg : Gl X x := by rfl) (hdb : (x == ("__debug__" : Str)) = false := by decide)
    (he : starEach (e :: es) X.env = (false, eval e X.env) :: starEach es X.env := by rfl) (hpl : (backTo pos (starEach es X.env)).any (·.1) = false := by rfl) : PE X (.Call (.Name x p) (e :: es) [] pos) (tMakeW C sp W t) := ⟨fun pins s σ H Q I h => by
  obtain ⟨f, fd, F, M, hC, hb⟩ := G.ex
  refine wpAny_Call_Name_kw (ld_glob I hg hC (PySem.W.callWith_K (h₀ := X.base) I.ok.mod.kin M.kp (thn (ha.run pos pins s σ H _ I h) ?_) he hpl) hdb)
  rintro us s1 ⟨vs, H1, I1, r, q⟩
  refine ⟨I1.kIn, ?_⟩
  have hq := q (s1.heap.objs.size + 1) s1.heap.objs.size (I1.hok.fresh (Nat.le_succ _)) (I1.hok.fresh (Nat.le_refl _)) (Nat.ne_of_lt (Nat.lt_succ_self _))
  rw [List.append_nil] at hq
  have J := Inv.made (C := C) I1
  have rr : Vals (V.ref (s1.heap.objs.size + 1) :: vs) (Value.ref (s1.heap.objs.size + 1) :: us) := .cons rfl r
  have hb2 := hb _ (Value.ref (s1.heap.objs.size + 1) :: us) J.kIn (by rw [List.append_nil]; exact rr.length.symm.trans (F.len _ _ _ _ hq))
  rw [List.append_nil] at hb2
  refine wpAny_call (make_map (f := f) I1.kIn M.makes M.init (beq_iff_eq.mp M.fn) (codeAny_mono (F.run _ X.stack _ _ ⟨_, []⟩ _ _ _ _ (hr.make C us []) (J.env0.make C us []) hb2 rr hq) fun r s' z => ?_))
  match r with
  | .error e' => exact L2N.passAt tk σ pins _ _ e' s' J z
  | .ok (.ret u) =>
    obtain ⟨v, H', I3, rv, ev, q3⟩ := J.after z
    subst ev
    exact ⟨rv, V.ref (s1.heap.objs.size + 1), H', I3, rfl, q3⟩
  | .ok .next => exact False.elim z
  | .ok .brk => exact False.elim z
  | .ok .cont => exact False.elim z⟩
/-- a class of errors as a value -/
theorem gc (h : X.mg x = some (.ref C)) (hg : Gl X x := by rfl) (hd : (x == ("__debug__" : Str)) = false := by decide) : PE X (.Name x pos) (tC (.ref C)) := pe_glob hg h rfl hd
end
section
variable {K : PySem.W.Frag} {ρ : Rho} {z d : D} {l : List D} {ds : List D} {tr : TA} {ta : TE} {W : WX} {C : Addr} {ns : List Str} {m : Str} {E : WX} {P : Pst} {i : Nat}
theorem ev_obj {C : Addr} : EvD K (tC (.ref C)) ρ (.obj C) := ev_c fun _ => rfl
theorem eva_recv (ha : EvD K ta ρ (.ins C ns l)) (hm : m ∉ ns) (hr : EvA K tr ρ ds) : EvA K (tRecv C m ta tr) ρ (.ins C ns l :: ds) := fun M T0 H T σ X Q e q =>
  ha M T0 H T σ X _ e fun v H1 T1 s1 t1 e1 i1 => by
    obtain ⟨a, dx, vs, rfl, h1, h2⟩ := i1
    refine ⟨a, dx, _, rfl, e1.same _ _ h1, look_none hm, hr M T0 H1 T1 σ X _ e1 fun us H2 T2 s2 t2 e2 i2 => ?_⟩
    exact q _ H2 T2 (s1.trans s2) (t1.trans t2) e2 (.cons ((show Is K H1 (.ins C ns l) (.ref a) from ⟨a, dx, vs, rfl, h1, h2⟩).up s2) i2)
theorem ec_mkX {P : List D → (D → Prop) → (Exn → Prop) → Prop} (hr : EvA K tr ρ ds) (hp : P ds (fun d => d = z) (fun _ => False)) : EvC K (tMakeW C (spMk K C P) W tr) ρ z := fun M T0 H T σ X Q e q => ec_make (Ex := WE W σ) hr hp M T0 H T σ X Q e q
theorem ez_mkX {P : List D → (D → Prop) → (Exn → Prop) → Prop} {x : Exn} (hr : EvA K tr ρ ds) (hp : P ds (fun _ => False) (fun z' => z' = x)) : EvZ K W (tMakeW C (spMk K C P) W tr) ρ x := fun M T0 H T σ X Q e q =>
  hr M T0 H T σ X _ e fun vs H1 T1 s1 t1 e1 i1 => fun x dx hx hdx hne => by
    obtain ⟨L, r, o, f⟩ := e1.ex
    rw [List.append_nil]
    have hx1 : (upd T1 dx (.own x)) x = none := by rw [upd_ne (Ne.symm hne)]; exact hx
    refine ⟨x, dx, vs, _, H1, T1, ds, _, _, rfl, (o.opened (o := .own x) hdx).opened (o := .ins C dx []) hx1, i1, hx, hdx, (same_new hdx).trans (same_new hx1), hp, fun _ _ _ _ h => h.elim, fun c ns es od H' T' hz s' t' o' hxx => ?_⟩
    subst hz
    exact q od H' T' (s1.trans s') (t1.trans t') ⟨⟨L, r.up s', o', f⟩, e1.t0.trans t'⟩ (hxx.dn t1)
/-- try: .. except x as n: .., x takes all that comes -/
theorem ws_tryA {tb : WX → TS} {ts : Addr → Value → Option Addr → TS} {c : Value} {Wout : WX} {Pc : Rho → Exn → Prop} (hb : ∀ W, Ws K W (tb W) ρ { P with ex := Pc })
    (hc : ∀ ρ' z, Pc ρ' z → PySem.W.exmOne K z.1 c = some true ∧ ∀ a od, Ws K E (ts a z.1 od) (ρ'.set i (.im (.exc a od z.2.1 z.2.2))) { nx := fun ρ2 => P.nx (ρ2.set i .no), rt := P.rt, bk := fun ρ2 => P.bk (ρ2.set i .no), ct := fun ρ2 => P.ct (ρ2.set i .no) }) :
    Ws K E (fun Dn σ H => tb (wAs K c i ts Wout Dn) Dn σ H) ρ P := fun M T0 H T σ Dn en k =>
  hb _ M T0 H T σ Dn en ⟨k.nx, k.rt, k.bk, k.ct, fun ρ' σ' cl ns es od H' T' hz s' e' hx => by
    obtain ⟨h1, h2⟩ := hc ρ' (cl, ns, es) hz
    refine ⟨true, h1, fun _ a ha => ?_, fun z => nomatch z⟩
    have e2 := EnX.set (i := i) (d := .exc a od ns es) (v := .ref a) e' ⟨rfl, hx.is⟩
    exact h2 a od M T0 H' T' _ _ e2 ⟨fun ρ2 σ2 H2 T2 p s2 en2 => k.nx _ _ H2 T2 p (s'.trans s2) en2.drop, fun s v H2 T2 p s2 => k.rt s v H2 T2 p (s'.trans s2), fun ρ2 σ2 H2 T2 p s2 en2 => k.bk _ _ H2 T2 p (s'.trans s2) en2.drop, fun ρ2 σ2 H2 T2 p s2 en2 => k.ct _ _ H2 T2 p (s'.trans s2) en2.drop, fun _ _ _ _ _ _ _ _ hz => hz.elim⟩⟩
end
section
variable {X : Cx} (K : PySem.W.Frag) {a : Addr} {cls : Value} {d : Option Addr} {oe : Obj}
theorem kIsX (hp : (a, oe) ∈ X.pn) (hz : L2N.Zn cls d oe) (hf : ∃ vs, oe.data = .fields vs) (hK : X.K = K := by rfl) : CallR X (.builtin "isinstance") (rIsX K a cls d) := hK ▸ call_isX hp hz hf
theorem kIsXT (hp : (a, oe) ∈ X.pn) (hz : L2N.Zn cls d oe) (hf : ∃ vs, oe.data = .fields vs) (hK : X.K = K := by rfl) : CallR X (.builtin "isinstance") (rIsXT K a cls d) := hK ▸ call_isXT hp hz hf
theorem kXf {i : Nat} {x f : Str} {p pos : Pos} (hp : (a, oe) ∈ X.pn) (hz : L2N.Zn cls d oe) (hf : ∃ vs, oe.data = .fields vs) (he : PE X (.Name x p) (tVar i)) (hK : X.K = K := by rfl) (hb : attributeBase (.Name x p) f X.env (eval (.Name x p) X.env) = eval (.Name x p) X.env := by rfl) :
    PE X (.Attribute (.Name x p) f pos) (tXf2 K a cls d f i) := hK ▸ pe_xf2 hp hz hf he hb
end

/-! ### classes of errors beside each other -/
section
variable {K : PySem.W.Frag} {D C : Addr}
theorem kit_T (s : PySem.W.subIn K (.ref D) (.ref C) = some true) (hd : PySem.W.hasDictIn K C = true) (ty : PySem.W.typeIn K (.ref C) = some (.type "type")) : PySem.W.kitOne K (.ref D) (.ref C) = some true := by
  unfold PySem.W.kitOne
  split
  · rfl
  · obtain ⟨cd, hc, _⟩ := PySem.W.any_some hd
    have hc' : PySem.W.clsIn K C = some cd := hc
    unfold PySem.W.kitCls
    simp [hc', ty, s]
theorem kit_F (s0 : PySem.W.subIn K (.ref D) (.ref D) = some true) (s : PySem.W.subIn K (.ref D) (.ref C) = some false) (hd : PySem.W.hasDictIn K C = true) (ty : PySem.W.typeIn K (.ref C) = some (.type "type")) : PySem.W.kitOne K (.ref D) (.ref C) = some false := by
  unfold PySem.W.kitOne
  rw [if_neg]
  · obtain ⟨cd, hc, _⟩ := PySem.W.any_some hd
    have hc' : PySem.W.clsIn K C = some cd := hc
    unfold PySem.W.kitCls
    simp [hc', ty, s]
  · intro e
    have e : D = C := Value.ref.inj (beq_iff_eq.mp e)
    subst e
    rw [s0] at s
    cases s
theorem kit_VE (s : PySem.W.subIn K (.ref D) (.type "ValueError") = some true) : PySem.W.kitOne K (.ref D) (.type "ValueError") = some true := by
  unfold PySem.W.kitOne
  split
  · rfl
  · unfold PySem.W.kitCls
    have e : PySem.W.kitMeta "ValueError" = true := by decide +kernel
    simp [e, s]
end

/-! ### defs that are called in a suite; the error there is at a, of the class c, its dict at d -/
open L2H
structure FnE (P : Program) (w : World) (K : PySem.W.Frag) (mg : Str → Option Value) (base : Heap) (CX : CXT) (k : Nat) (f : Addr) (fd : FuncData) (ps : List Str) (sp : Addr → Value → Option Addr → Sp) : Prop where
  len : ∀ a c d vs H Q E, sp a c d vs H Q E → vs.length = ps.length
  run : ∀ (A : Around) (outer : List Env) (s : Shared) (H : Hp) (args : Args) (us : List Value) (vs : List V) (Q : VK) (E : XK) (a : Addr) (oe : Obj) (c : Value) (d : Option Addr), RoomH k A → A.handled = some (.ref a) → L2N.Zn c d oe → (∃ fs, oe.data = .fields fs) → PinOk outer H s (a, oe) →
    Env0 P w K mg base A outer s H → BindsTo s fd args (ps.zip us) → Vals vs us → sp a c d vs H Q E → codeAny (model P w) A (.call (.ref f) args) (CR CX outer P w H s Q E) s
theorem fn_okE {CX : CXT} {P : Program} {w : World} {K : PySem.W.Frag} {mg : Str → Option Value} {base : Heap} {k : Nat} {x qual : Str} {st : Stmt} {f : Addr} {fd : FuncData} {N ps : List Str} {sp : Addr → Value → Option Addr → Sp} (F : Fun K x qual st f fd) (S : FnScope N ps (defScope st)) (len : ∀ a c d vs H Q E, sp a c d vs H Q E → vs.length = ps.length)
    (hbody : ∀ (cdv : Value) (A : Around) (outer : List Env) (s : Shared) (H : Hp) (vs : List V) (Q : VK) (E : XK) (a : Addr) (oe : Obj) (c : Value) (d : Option Addr), A.handled = some (.ref a) → L2N.Zn c d oe → (∃ fs, oe.data = .fields fs) → RoomH k (A.deeper (envOfC qual (defScope st) s.heap.objs.size f cdv)) → sp a c d vs H Q E →
      ∃ t, PSs (cxH CX P w K mg base N qual (defScope st) f cdv A outer s H E (a, oe)) (defBody st) t ∧ t { nx := fun _ H' => Q .non H', rt := Q } (L2.start N vs) H) : FnE P w K mg base CX (k + 1) f fd ps sp := by
  obtain ⟨oc, od, kV, doc, pm, an, cdv, ct, osl, rfl, lk, hcd⟩ := F.ex
  refine ⟨len, fun A outer s H args us vs Q E a oe c d hr hh hz hf hpin e0 hb r q0 => ?_⟩
  have kin : K.In s.heap := e0.mod.kin.keeps fun b o z => (e0.bs b o z).1
  have nol : s.heap.NoLimit := e0.mod.nolimit.keeps fun b o z => (e0.bs b o z).1
  refine codeAny_call_function hr.depth (kin _ _ lk) rfl S.co S.gen rfl (PySem.W.codeRec_of kin hcd) (hb _ _ _ _ (wpAny_newFunctionEnv_cells S.kind (fun y hy => ?_) fun env he s1 z => ?_))
  · rcases S.par y.1 (List.of_mem_zip (show (y.1, y.2) ∈ ps.zip us from hy)).1 with q | q
    · exact .inl q
    · exact .inr ⟨q, PySem.W.cellsFrom_some _ _ _ (.inl q)⟩
  subst he
  obtain ⟨t, ht, hq⟩ := hbody cdv A outer s H vs Q E a oe c d hh hz hf (hr.deeper _) q0
  have J := inv_startH (CX := CX) (E := E) S hpin e0 (len _ _ _ _ _ _ _ q0) r z
  refine ⟨nol.keeps z.toInCall.keep, codeAny_func (wpAny_mono (ht.run [] s1 (L2.start N vs) H _ J hq) (fun fl s' hs => ?_) fun _ _ hs => hs)⟩
  match fl with
  | .next =>
    obtain ⟨σ', H', I', q⟩ := hs
    exact ⟨V.non, H', I'.os, I'.bare, I'.base, I'.hok, rfl, q⟩
  | .ret u =>
    obtain ⟨v, σ', H', I', rv, q⟩ := hs
    exact ⟨v, H', I'.os, I'.bare, I'.base, I'.hok, rv, q⟩
  | .brk =>
    obtain ⟨_, _, _, q⟩ := hs
    exact q.elim
  | .cont =>
    obtain ⟨_, _, _, q⟩ := hs
    exact q.elim
structure FnGE (P : Program) (w : World) (K : PySem.W.Frag) (mg : Str → Option Value) (base : Heap) (k : Nat) (x : Str) (ps : List Str) (sp : Addr → Value → Option Addr → Sp) : Prop where
  ex : ∃ f fd, FnE P w K mg base CX0 k f fd ps sp ∧ mg x = some (.ref f) ∧ PySem.W.keepIn K (.ref f) = true ∧ Binds K fd ps []
section
variable {X : Cx} {k : Nat} {x : Str} {ps : List Str} {sp : Addr → Value → Option Addr → Sp} {e : Expr} {es : List Expr} {t : TA} {p pos : Pos} {a : Addr} {oe : Obj} {cls : Value} {d : Option Addr}
/-- f(e, ..) where an error is handled -/
theorem pe_hE (G : FnGE X.prog X.w X.K X.mg X.base k x ps sp) (hr : RoomH k X.A) (hp : (a, oe) ∈ X.pn) (hh : X.A.handled = some (.ref a)) (hz : L2N.Zn cls d oe) (hf : ∃ vs, oe.data = .fields vs) (ha : PA X (e :: es) t) (hg : Gl X x := by rfl) (hdb : (x == ("__debug__" : Str)) = false := by decide)
    (he : starEach (e :: es) X.env = (false, eval e X.env) :: starEach es X.env := by rfl) (hpl : (backTo pos (starEach es X.env)).any (·.1) = false := by rfl) : PE X (.Call (.Name x p) (e :: es) [] pos) (tCall (sp a cls d) [] E0 t) := ⟨fun pins s σ H Q I h => by
  obtain ⟨f, fd, F, hm, hk, hb⟩ := G.ex
  refine wpAny_Call_Name_kw (ld_glob I hg hm (PySem.W.callWith_K (h₀ := X.base) I.ok.mod.kin hk (thn (ha.run pos pins s σ H _ I h) ?_) he hpl) hdb)
  rintro us s1 ⟨vs, H1, I1, r, q⟩
  refine ⟨I1.kIn, ?_⟩
  rw [List.append_nil] at q
  have hb2 := hb s1 us I1.kIn (by rw [List.append_nil]; exact r.length.symm.trans (F.len _ _ _ _ _ _ _ q))
  rw [List.append_nil] at hb2
  obtain ⟨p1, p2, p3, p4, p5⟩ := I1.pin (a, oe) (List.mem_append_left _ hp)
  refine wpAny_call (codeAny_mono (F.run X.A X.stack s1 H1 ⟨us, []⟩ us vs _ _ a oe cls d hr hh hz hf ⟨p1, p2, fun hm => (List.mem_cons.mp (I1.stkSub a hm)).elim p3 p4, p5⟩ I1.env0 hb2 r q) fun r s' z => ?_)
  match r with
  | .error er => exact False.elim z
  | .ok (.ret u) => exact I1.after z
  | .ok .next => exact False.elim z
  | .ok .brk => exact False.elim z
  | .ok .cont => exact False.elim z⟩
end
section
variable {P : Program} {w : World} {K : PySem.W.Frag} {mg : Str → Option Value} {base : Heap} {x : Str} {st : Stmt} {N ps : List Str} {k : Nat} {Pr : Addr → Value → Option Addr → PrD}
theorem Df.okE (F : Df K mg x st ps) (S : FnScope N ps (defScope st)) (len : ∀ a c d ds R Z, Pr a c d ds R Z → ds.length = ps.length)
    (hbody : ∀ (f : Addr) (cdv : Value) (A : Around) (outer : List Env) (s : Shared) (H : Hp) (E : XK) (a : Addr) (oe : Obj) (c : Value) (d : Option Addr), A.handled = some (.ref a) → L2N.Zn c d oe → (∃ fs, oe.data = .fields fs) → RoomH k (A.deeper (envOfC x (defScope st) s.heap.objs.size f cdv)) →
      ∃ t, PSs (cxH CX0 P w K mg base N x (defScope st) f cdv A outer s H E (a, oe)).nox (defBody st) t ∧ ∀ ds R Z, Pr a c d ds R Z → Ws K (upX E) t (ds.map .im ++ List.replicate (N.length - ds.length) .no) { nx := fun _ => R (.im .non), rt := R, ex := fun _ => Z }) :
    FnGE P w K mg base (k + 1) x ps fun a c d => spD K (Pr a c d) := by
  obtain ⟨f, fd, F, hm, hb⟩ := F.ex
  refine ⟨f, fd, fn_okE F S (fun a c d vs H Q E h => len_fn (len a c d) h) (fun cdv A outer s H vs Q E a oe c d hh hz hf hr h => ?_), hm, F.kp, hb⟩
  obtain ⟨t, h1, h2⟩ := hbody f cdv A outer s H E a oe c d hh hz hf hr
  exact ⟨t, h1.nox, read_fn h h2⟩
end
end FS
set_option Elab.async false
set_option linter.all false
set_option maxRecDepth 100000
set_option maxHeartbeats 4000000
/-! Loops and comprehensions, told by the slots that change. -/
namespace FS
open PySem PySem.Spec PyProof.Rows L2
/-- some slots changed -/
def up : Rho → List (Nat × Sl) → Rho
  | ρ, [] => ρ
  | ρ, (i, s) :: r => up (ρ.set i s) r
section
variable {K : PySem.W.Frag} {E : L2.WX} {ρ : Rho} {P : Pst} {t tz tb : TS} {ta : TA} {tl te : TE} {tt : TT} {wi : TI} {g : TG} {j n : Nat} {α : Type} {xs : List α} {enc : α → D} {d : D}
theorem src_n (h : EvA K ta ρ [.int (n : Int)]) (hn : n ≤ 1000000) : SrcD K (iRng1 ta) ρ ((List.range n).map fun k : Nat => D.int (k : Int)) := by
  have e : (List.range n).map (fun k : Nat => D.int (k : Int)) = rng 0 ((n : Int)).toNat := by
    rw [Int.toNat_natCast]
    unfold rng
    refine List.map_congr_left fun k _ => ?_
    rw [Int.zero_add]
  rw [e]
  exact src_rng1 h (by omega)
theorem wq_cut (u : List (Nat × Sl)) (h : Ws K E t ρ { P with nx := fun ρ' => ρ' = up ρ u }) (h2 : Ws K E tz (up ρ u) P) : Ws K E (tSeq t tz) ρ P := ws_cut (up ρ u) h h2
theorem ws_forU (hs : SrcD K wi ρ (xs.map enc)) (V : Nat → List (Nat × Sl) → Prop) (h0 : ∃ u, V 0 u ∧ up ρ u = ρ)
    (hb : ∀ i x u, xs[i]? = some x → V i u → ∃ as, GDs K g (enc x) as ∧ Ws K E tb (setD (up ρ u) as) { P with nx := fun ρ' => ∃ u', V (i + 1) u' ∧ up ρ u' = ρ', ct := fun ρ' => ∃ u', V (i + 1) u' ∧ up ρ u' = ρ', bk := P.nx })
    (hd : ∀ u, V xs.length u → P.nx (up ρ u)) : Ws K E (tFor wi g tb) ρ P := by
  refine ws_for hs (fun i ρ' => ∃ u, V i u ∧ up ρ u = ρ') h0 ?_ ?_
  · rintro i d ρ' hx ⟨u, hv, rfl⟩
    obtain ⟨x, h1, rfl⟩ := map_get hx
    exact hb i x u h1 hv
  · rintro ρ' ⟨u, hv, rfl⟩
    rw [List.length_map] at hv
    exact hd u hv
theorem ws_forL (hs : EvD K tl ρ (.lst (xs.map enc))) (V : Nat → List (Nat × Sl) → Prop) (h0 : ∃ u, V 0 u ∧ up ρ u = ρ)
    (hb : ∀ i x u, xs[i]? = some x → V i u → Ws K E tb ((up ρ u).set j (.im (enc x))) { P with nx := fun ρ' => ∃ u', V (i + 1) u' ∧ up ρ u' = ρ', ct := fun ρ' => ∃ u', V (i + 1) u' ∧ up ρ u' = ρ', bk := P.nx })
    (hd : ∀ u, V xs.length u → P.nx (up ρ u)) : Ws K E (tFor (iList K tl) (gName j) tb) ρ P :=
  ws_forU (src_list hs) V h0 (fun i x u h1 h2 => ⟨_, gd_name, hb i x u h1 h2⟩) hd
theorem ws_forN (hs : EvA K ta ρ [.int (n : Int)]) (hn : n ≤ 1000000) (V : Nat → List (Nat × Sl) → Prop) (h0 : ∃ u, V 0 u ∧ up ρ u = ρ)
    (hb : ∀ i u, i < n → V i u → Ws K E tb ((up ρ u).set j (.im (.int (i : Int)))) { P with nx := fun ρ' => ∃ u', V (i + 1) u' ∧ up ρ u' = ρ', ct := fun ρ' => ∃ u', V (i + 1) u' ∧ up ρ u' = ρ', bk := P.nx })
    (hd : ∀ u, V n u → P.nx (up ρ u)) : Ws K E (tFor (iRng1 ta) (gName j) tb) ρ P := by
  refine ws_forU (src_n hs hn) V h0 (fun i x u h1 h2 => ⟨_, gd_name, ?_⟩) (fun u h => hd u (by rwa [List.length_range] at h))
  obtain ⟨hi, rfl⟩ := List.getElem?_eq_some_iff.mp h1
  rw [List.getElem_range]
  exact hb i u (by rwa [List.length_range] at hi) h2
theorem wq_forL (hs : EvD K tl ρ (.lst (xs.map enc))) (V : Nat → List (Nat × Sl) → Prop) (h0 : ∃ u, V 0 u ∧ up ρ u = ρ)
    (hb : ∀ i x u, xs[i]? = some x → V i u → Ws K E tb ((up ρ u).set j (.im (enc x))) { P with nx := fun ρ' => ∃ u', V (i + 1) u' ∧ up ρ u' = ρ', ct := fun ρ' => ∃ u', V (i + 1) u' ∧ up ρ u' = ρ', bk := fun ρ' => Ws K E tz ρ' P })
    (hd : ∀ u, V xs.length u → Ws K E tz (up ρ u) P) : Ws K E (tSeq (tFor (iList K tl) (gName j) tb) tz) ρ P := ws_seq (ws_forL hs V h0 hb hd)
theorem wq_forN (hs : EvA K ta ρ [.int (n : Int)]) (hn : n ≤ 1000000) (V : Nat → List (Nat × Sl) → Prop) (h0 : ∃ u, V 0 u ∧ up ρ u = ρ)
    (hb : ∀ i u, i < n → V i u → Ws K E tb ((up ρ u).set j (.im (.int (i : Int)))) { P with nx := fun ρ' => ∃ u', V (i + 1) u' ∧ up ρ u' = ρ', ct := fun ρ' => ∃ u', V (i + 1) u' ∧ up ρ u' = ρ', bk := fun ρ' => Ws K E tz ρ' P })
    (hd : ∀ u, V n u → Ws K E tz (up ρ u) P) : Ws K E (tSeq (tFor (iRng1 ta) (gName j) tb) tz) ρ P := ws_seq (ws_forN hs hn V h0 hb hd)
theorem wipe1 (d : D) : setD (wipeD ρ [j]) [(j, d)] = ρ.set j (.im d) := by
  show (ρ.set j .no).set j (.im d) = _
  rw [List.set_set]
/-- [e for x in xs], xs a known list: the values known -/
theorem lc_L (e : α → D) (hs : EvD K tl ρ (.lst (xs.map enc))) (hv : isOw ρ[j]? = false) (ht : ∀ x ∈ xs, EvD K te (ρ.set j (.im (enc x))) (e x)) (hz : xs.length ≤ 100000) : EvO K (tLc (iList K tl) (gName j) tYes te [j]) ρ (xs.map e) :=
  evo_map e (src_list hs) (fun i hi => by rw [List.mem_singleton.mp hi]; exact hv) (fun x hx => ⟨_, gd_name, by simp, by rw [wipe1]; exact ht x hx⟩) hz
theorem lc_N (e : Nat → D) (hs : EvA K ta ρ [.int (n : Int)]) (hv : isOw ρ[j]? = false) (ht : ∀ k, k < n → EvD K te (ρ.set j (.im (.int (k : Int)))) (e k)) (hz : n ≤ 100000) : EvO K (tLc (iRng1 ta) (gName j) tYes te [j]) ρ ((List.range n).map e) :=
  evo_map e (src_n hs (by omega)) (fun i hi => by rw [List.mem_singleton.mp hi]; exact hv) (fun k hk => ⟨_, gd_name, by simp, by rw [wipe1]; exact ht k (List.mem_range.mp hk)⟩) (by rw [List.length_range]; exact hz)
theorem lcf_L (f : α → Bool) (e : α → D) (hs : EvD K tl ρ (.lst (xs.map enc))) (hv : isOw ρ[j]? = false) (ht : ∀ x ∈ xs, EvT K tt (ρ.set j (.im (enc x))) (f x) ∧ (f x = true → EvD K te (ρ.set j (.im (enc x))) (e x))) (hz : xs.length ≤ 100000) : EvO K (tLc (iList K tl) (gName j) tt te [j]) ρ ((xs.filter f).map e) :=
  evo_lc f e (src_list hs) (fun i hi => by rw [List.mem_singleton.mp hi]; exact hv) (fun x hx => ⟨_, gd_name, by simp, by rw [wipe1]; exact (ht x hx).1, fun q => by rw [wipe1]; exact (ht x hx).2 q⟩) hz
theorem lcf_N (f : Nat → Bool) (e : Nat → D) (hs : EvA K ta ρ [.int (n : Int)]) (hv : isOw ρ[j]? = false) (ht : ∀ k, k < n → EvT K tt (ρ.set j (.im (.int (k : Int)))) (f k) ∧ (f k = true → EvD K te (ρ.set j (.im (.int (k : Int)))) (e k))) (hz : n ≤ 100000) : EvO K (tLc (iRng1 ta) (gName j) tt te [j]) ρ (((List.range n).filter f).map e) :=
  evo_lc f e (src_n hs (by omega)) (fun i hi => by rw [List.mem_singleton.mp hi]; exact hv) (fun k hk => ⟨_, gd_name, by simp, by rw [wipe1]; exact (ht k (List.mem_range.mp hk)).1, fun q => by rw [wipe1]; exact (ht k (List.mem_range.mp hk)).2 q⟩) (by rw [List.length_range]; exact hz)
/-- .. the values open -/
theorem lc_LC (e : α → D) (hs : EvD K tl ρ (.lst (xs.map enc))) (hv : isOw ρ[j]? = false) (ht : ∀ x ∈ xs, EvC K te (ρ.set j (.im (enc x))) (e x)) (hz : xs.length ≤ 100000) : EvC K (tLc (iList K tl) (gName j) tYes te [j]) ρ (.lst (xs.map e)) :=
  ec_map e (src_list hs) (fun i hi => by rw [List.mem_singleton.mp hi]; exact hv) (fun x hx => ⟨_, gd_name, by simp, by rw [wipe1]; exact ht x hx⟩) hz
theorem lc_NC (e : Nat → D) (hs : EvA K ta ρ [.int (n : Int)]) (hv : isOw ρ[j]? = false) (ht : ∀ k, k < n → EvC K te (ρ.set j (.im (.int (k : Int)))) (e k)) (hz : n ≤ 100000) : EvC K (tLc (iRng1 ta) (gName j) tYes te [j]) ρ (.lst ((List.range n).map e)) :=
  ec_map e (src_n hs (by omega)) (fun i hi => by rw [List.mem_singleton.mp hi]; exact hv) (fun k hk => ⟨_, gd_name, by simp, by rw [wipe1]; exact ht k (List.mem_range.mp hk)⟩) (by rw [List.length_range]; exact hz)
/-- a list's item, by a natural place -/
theorem at_f {f : α → D} {l : List α} {k : Nat} (h : k < l.length) : atI (l.map f) (k : Int) = some (f l[k]) := at_map (List.getElem?_eq_getElem h)
end
end FS
set_option Elab.async false
set_option linter.all false
set_option maxRecDepth 100000
set_option maxHeartbeats 4000000
/-! Slices, pops, places, the lesser of two. -/
namespace FS
open PySem PySem.Spec PyProof.Rows L2
theorem _root_.L2.Room.units65 {k : Nat} {A : Around} (r : L2.Room k A) : A.units + 65 < cLine := by have := r.un; omega
section
variable {K : PySem.W.Frag} {E : L2.WX} {ρ : Rho} {P : Pst} {te ta tb to : TE} {tz : TS} {d y : D} {l : List D} {i j n : Nat} {π : List Nat}
theorem rc_min2 {i j : Int} : RcD K (fun xs H Q => ∃ i j, xs = [.int i, .int j] ∧ Q (.int (if j < i then j else i)) H) [.int i, .int j] (.int (min i j)) := fun H T vs Q s h q => by
  obtain ⟨v, w, rfl, hv, hw⟩ := isL_two h
  refine ⟨i, j, by rw [show v = V.int i from hv, show w = V.int j from hw], q _ ?_⟩
  show V.int _ = V.int _
  congr 1
  split <;> omega
theorem rc_max2 {i j : Int} : RcD K (fun xs H Q => ∃ i j, xs = [.int i, .int j] ∧ Q (.int (if j > i then j else i)) H) [.int i, .int j] (.int (max i j)) := fun H T vs Q s h q => by
  obtain ⟨v, w, rfl, hv, hw⟩ := isL_two h
  refine ⟨i, j, by rw [show v = V.int i from hv, show w = V.int j from hw], q _ ?_⟩
  show V.int _ = V.int _
  congr 1
  split <;> omega
/-! slices of known lists -/
theorem isL_ints2 {H : Hp} (ns : List Int) : IsL K H (ns.map .int) (ns.map V.int) := isL_ints ns
/-- a known list, or the script -/
def lstOf : D → Option (List D)
  | .lst l => some l
  | .scr ns => some (ns.map .int)
  | _ => none
theorem lst_is {H : Hp} {v : V} (e : lstOf d = some l) (h : Is K H d v) : ∃ a vs, v = .ref a ∧ SqL K H a vs ∧ IsL K H l vs := by
  cases d with
  | lst l' =>
    cases (show some l' = some l from e)
    obtain ⟨a, vs, h1, h2, h3⟩ := h
    exact ⟨a, vs, h1, .inl (.inl h2), h3⟩
  | scr ns =>
    cases (show some (ns.map D.int) = some l from e)
    obtain ⟨a, h1, h2⟩ := h
    exact ⟨a, _, h1, h2, isL_ints ns⟩
  | _ => cases e
theorem ev_slF {k : Nat} (h : EvD K te ρ d) (e : lstOf d = some l) (hb : EvD K tb ρ (.int (k : Int))) : EvO K (tSl (rSlL K) te (tPart tb) tNoPart) ρ (l.drop k) := fun M T0 H T σ X Q en q =>
  h M T0 H T σ X _ en fun v H1 T1 s1 t1 e1 i1 => hb M T0 H1 T1 σ X _ e1 fun w H2 T2 s2 t2 e2 i2 => by
    refine ⟨(k : Int), i2, ?_⟩
    obtain ⟨a, vs, rfl, h1, h2⟩ := lst_is e (i1.up s2)
    refine ⟨a, vs, rfl, e2.same.seq h1, fun p hp => q p _ H2 _ (s1.trans s2) (t1.trans (t2.trans (same_new hp))) (e2.opened hp) ?_⟩
    unfold cutV
    rw [HT.sIx_nat, HT.sIx_none]
    have e3 : (vs.drop (min k vs.length)).take (vs.length - min k vs.length) = vs.drop k := by
      rw [List.take_of_length_le (by rw [List.length_drop]; exact Nat.le_refl _)]
      rcases Nat.le_total k vs.length with z | z
      · rw [Nat.min_eq_left z]
      · rw [Nat.min_eq_right z, List.drop_length, List.drop_eq_nil_of_le z]
    rw [e3]
    exact h2.drop k
theorem ev_slT {k : Nat} (h : EvD K te ρ d) (e : lstOf d = some l) (hb : EvD K tb ρ (.int (k : Int))) : EvO K (tSl (rSlL K) te tNoPart (tPart tb)) ρ (l.take k) := fun M T0 H T σ X Q en q =>
  h M T0 H T σ X _ en fun v H1 T1 s1 t1 e1 i1 => hb M T0 H1 T1 σ X _ e1 fun w H2 T2 s2 t2 e2 i2 => by
    refine ⟨(k : Int), i2, ?_⟩
    obtain ⟨a, vs, rfl, h1, h2⟩ := lst_is e (i1.up s2)
    refine ⟨a, vs, rfl, e2.same.seq h1, fun p hp => q p _ H2 _ (s1.trans s2) (t1.trans (t2.trans (same_new hp))) (e2.opened hp) ?_⟩
    unfold cutV
    rw [HT.sIx_nat, HT.sIx_none, List.drop_zero, Nat.sub_zero]
    have e3 : vs.take (min k vs.length) = vs.take k := by
      rcases Nat.le_total k vs.length with z | z
      · rw [Nat.min_eq_left z]
      · rw [Nat.min_eq_right z, List.take_length, List.take_of_length_le z]
    rw [e3]
    exact h2.take k
/-! pops -/
theorem erase_part {H : Hp} : ∀ {l : List D} {vs : List V} {L : Op} (k : Nat), IsCL K H l vs L → ∃ L', IsCL K H (l.eraseIdx k) (vs.eraseIdx k) L' ∧ L'.Sublist L
  | [], _, _, k, h => ⟨[], by rw [h.1]; exact ⟨rfl, rfl⟩, List.nil_sublist _⟩
  | _ :: l, _, _, 0, ⟨v, r, L1, L2, e, eL, h1, h2⟩ => by
    rw [e, eL]
    exact ⟨L2, h2, List.sublist_append_right _ _⟩
  | x :: l, _, _, k + 1, ⟨v, r, L1, L2, e, eL, h1, h2⟩ => by
    obtain ⟨L', g1, g2⟩ := erase_part k h2
    rw [e, eL]
    exact ⟨L1 ++ L', ⟨v, _, L1, L', rfl, rfl, h1, g1⟩, (List.Sublist.refl _).append g2⟩
theorem drop_erase {α : Type} (l : List α) : l.dropLast = l.eraseIdx (l.length - 1) := by
  rcases List.eq_nil_or_concat l with rfl | ⟨a, b, rfl⟩
  · rfl
  · rw [List.concat_eq_append, List.dropLast_concat, List.eraseIdx_append_of_length_le (by simp)]
    simp
/-- PATH.pop(), of a list that has items -/
theorem ws_popP (e : ρ[i]? = some (.cl d)) (hp : EvL K to ρ i π) (hd : D.at π d = some (.lst l)) (hl0 : 0 < l.length) (h : P.nx (ρ.set i (.cl (D.put π d (.lst l.dropLast))))) : Ws K E (tDrop (tBM0 K "list" rPop to)) ρ P := fun M T0 H T σ Dn en k =>
  hp M T0 H T σ [] _ en fun u H1 T1 s1 t1 e1 ⟨v, n1, n2⟩ => by
    obtain ⟨v', u', Ls, L0, h1, ⟨a, vs, Lt, eu, eL, hl⟩, h3, h4, h5⟩ := e1.spot e hd
    rw [n1] at h1
    cases h1
    cases Nav.eq n2 h3
    subst eu
    subst eL
    have hT : T1 a = some (.lst vs) := h4.here rfl (a, .lst vs) List.mem_cons_self
    have hvl := hl.len
    refine ⟨.inl ⟨rfl, vs, .inl (.inl hT)⟩, a, vs, vs[vs.length - 1]'(by omega), rfl, rfl, hT, List.getElem?_eq_getElem _, k.nx _ σ H1 _ h s1 ?_⟩
    obtain ⟨L', g1, g2⟩ := erase_part (vs.length - 1) hl
    have g1' : IsCL K H1 l.dropLast vs.dropLast L' := by
      rw [drop_erase, drop_erase, ← hvl]
      exact g1
    refine h5 H1 _ [] (.lst l.dropLast) ((a, .lst vs.dropLast) :: L') (Same.refl _) ?_ ⟨a, _, _, rfl, rfl, g1'⟩
    have g6 := EnX.write (o' := .lst vs.dropLast) h4
    exact g6.sub (List.Sublist.cons_cons _ (g2.append (List.Sublist.refl _)))
/-- PATH.pop(k) -/
theorem ws_popAtP {k : Nat} (e : ρ[i]? = some (.cl d)) (hp : EvL K to ρ i π) (hd : D.at π d = some (.lst l)) (hb : EvD K tb ρ (.int (k : Int))) (hk : k < l.length) (hk2 : k < 2 ^ 62) (h : P.nx (ρ.set i (.cl (D.put π d (.lst (l.eraseIdx k)))))) : Ws K E (tDrop (tBM K "list" rPopAt to (tCons tb tNil))) ρ P := fun M T0 H T σ Dn en kk =>
  hp M T0 H T σ [] _ en fun u H1 T1 s1 t1 e1 ⟨v, n1, n2⟩ => by
    obtain ⟨v', u', Ls, L0, h1, ⟨a, vs, Lt, eu, eL, hl⟩, h3, h4, h5⟩ := e1.spot e hd
    rw [n1] at h1
    cases h1
    cases Nav.eq n2 h3
    subst eu
    have hT : T1 a = some (.lst vs) := h4.here rfl (a, .lst vs) (by rw [eL]; exact List.mem_cons_self)
    refine ⟨.inl ⟨rfl, vs, .inl (.inl hT)⟩, hb M T0 H1 T1 σ [] _ e1 fun w H2 T2 s2 t2 e2 i2 => ?_⟩
    obtain ⟨v2, u2, Ls2, L02, g1, ⟨a2, vs2, Lt2, eu2, eL2, hl2⟩, g3, g4, g5⟩ := e2.spot e hd
    rw [n1] at g1
    cases g1
    have ea := Nav.eq (h3.up t2) g3
    rw [eu2] at ea
    cases ea
    subst eu2
    subst eL2
    have hT2 : T2 a = some (.lst vs2) := g4.here rfl (a, .lst vs2) List.mem_cons_self
    have hvl := hl2.len
    refine ⟨a, vs2, (k : Int), k, vs2[k]'(by omega), rfl, by rw [show w = V.int _ from i2], hT2, by omega, by omega, ?_, List.getElem?_eq_getElem _, kk.nx _ σ H2 _ h (s1.trans s2) ?_⟩
    · rw [seqIndex_of (by omega) (by omega), Int.toNat_natCast]
    obtain ⟨L', q1, q2⟩ := erase_part k hl2
    refine g5 H2 _ [] (.lst (l.eraseIdx k)) ((a, .lst (vs2.eraseIdx k)) :: L') (Same.refl _) ?_ ⟨a, _, _, rfl, rfl, q1⟩
    have g6 := EnX.write (o' := .lst (vs2.eraseIdx k)) g4
    exact g6.sub (List.Sublist.cons_cons _ (q2.append (List.Sublist.refl _)))
/-! places -/
theorem ev_indexD (ha : EvD K ta ρ (.lst l)) (hb : EvD K tb ρ y) (hl : D.flatL n l = true) (hy : y.flat n = true) (hn : n < 60) (hj : l[j]? = some y) (h0 : ∀ m z, m < j → l[m]? = some z → PyData.eqv z.py y.py = false) : EvD K (tBM K "list" (rIndexD K) ta (tCons tb tNil)) ρ (.int (j : Int)) := fun M T0 H T σ X Q e q =>
  ha M T0 H T σ X _ e fun v H1 T1 s1 t1 e1 i1 => by
    have i1' := i1
    obtain ⟨a, vs, rfl, h1, h2⟩ := i1'
    refine ⟨.inl ⟨rfl, vs, .inl (.inl (e1.same _ _ h1))⟩, hb M T0 H1 T1 σ X _ e1 fun w H2 T2 s2 t2 e2 i2 => ?_⟩
    have hf : (D.lst l).flat (n + 1) = true := hl
    have hd1 := is_dp (n + 1) (.lst l) (.ref a) hf ((i1.up s2).up e2.same)
    have hd2 := is_dp n y w hy (i2.up e2.same)
    refine ⟨a, w, y.py, D.pyL l, j, y.py, rfl, rfl, hd1, hd2, py_shaped hf (by omega), py_shaped hy (by omega), ?_, SeqAt.eqv_refl _ (py_can n y hy).1, fun m z' hm hz => ?_, q _ H2 T2 (s1.trans s2) (t1.trans t2) e2 rfl⟩
    · rw [pyL_map, List.getElem?_map, hj]
      rfl
    · rw [pyL_map, List.getElem?_map] at hz
      cases hx : l[m]? with
      | none => rw [hx] at hz; cases hz
      | some x =>
        rw [hx] at hz
        cases hz
        exact h0 m x hm hx
end
end FS
set_option Elab.async false
set_option linter.all false
set_option maxRecDepth 100000
set_option maxHeartbeats 4000000
/-! Defs with a star parameter. -/
namespace FS
open PySem PySem.Spec PyProof.Rows L2
/-- the promise of def f( *v), told of the tuple -/
def spV (K : PySem.W.Frag) (P : PrD) : Sp := fun vs H Q E => ∃ ws rest : List V, vs = ws ++ rest ∧ ws.length = ([] : List Str).length ∧ rest.length ≤ sizeLine ∧ ∀ p, H p = Option.none → spD K P (ws ++ [V.ref p]) (upd H p (.tup rest)) Q E
/-- a def f( *v) of the text -/
structure Dv (K : PySem.W.Frag) (mg : Str → Option Value) (x : Str) (st : Stmt) (v : Str) : Prop where
  ex : ∃ f fd, Fun K x x st f fd ∧ mg x = some (.ref f) ∧ ∀ rest : List Value, bindArgs fd ⟨rest, []⟩ = (newTuple rest >>= fun t => pure [(v, t)])
structure FnV (P : Program) (w : World) (K : PySem.W.Frag) (mg : Str → Option Value) (base : Heap) (CX : CXT) (k : Nat) (x : Str) (sp : Sp) : Prop where
  ex : ∃ f, FnR P w K mg base CX k f sp ∧ mg x = some (.ref f) ∧ PySem.W.keepIn K (.ref f) = true
section
variable {P : Program} {w : World} {K : PySem.W.Frag} {mg : Str → Option Value} {base : Heap} {x v : Str} {st : Stmt} {N : List Str} {k : Nat} {Pr : PrD}
theorem Dv.ok (F : Dv K mg x st v) (S : FnScope N [v] (defScope st)) (len : ∀ ds R Z, Pr ds R Z → ds.length = 1)
    (hbody : ∀ (f : Addr) (cdv : Value) (A : Around) (outer : List Env) (s : Shared) (H : Hp) (E : XK), Room k (A.deeper (envOfC x (defScope st) s.heap.objs.size f cdv)) →
      ∃ t, PSs (cxOf CX0 P w K mg base N x (defScope st) f cdv A outer s H E).nox (defBody st) t ∧ ∀ ds R Z, Pr ds R Z → Ws K (upX E) t (ds.map .im ++ List.replicate (N.length - ds.length) .no) { nx := fun _ => R (.im .non), rt := R, ex := fun _ => Z }) :
    FnV P w K mg base CX0 (k + 1) x (spV K Pr) := by
  obtain ⟨f, fd, F, hm, hb⟩ := F.ex
  refine ⟨f, ?_, hm, F.kp⟩
  obtain ⟨oc, od, kV, doc, pm, an, cdv, ct, osl, rfl, lk, hcd⟩ := F.ex
  refine StX.fn_star (ps := []) (pv := v) lk hcd S (StX.cxUp_none : StX.CXUp CX0) (fun us rest hl => ?_) (fun A outer s H vs Q E hr h => ?_)
  · cases us with
    | nil => exact hb rest
    | cons u us => cases hl
  · obtain ⟨t, h1, h2⟩ := hbody f cdv A outer s H E hr
    exact ⟨t, h1.nox, read_fn h h2⟩
end
def tCallV (sp : Sp) (E : XK) (t : TA) : TE := fun σ H Q => t σ H fun vs H1 => sp vs H1 Q E
def tCallVS (K : PySem.W.Frag) (sp : Sp) (E : XK) (te : TE) : TE := fun σ H Q => te σ H fun y H1 => ∃ a xs, y = V.ref a ∧ (SqT K H1 a xs ∨ SqL K H1 a xs) ∧ sp xs H1 Q E
section
variable {X : Cx} {CX : CXT} {k : Nat} {sp : Sp} {E : XK} {x : Str} {e : Expr} {es : List Expr} {t : TA} {te : TE} {p sp_ pos : Pos}
theorem pe_gR (G : FnV X.prog X.w X.K X.mg X.base CX k x sp) (hr : Room k X.A) (hx : Passes CX X E) (ha : PA X (e :: es) t) (hg : Gl X x := by rfl) (hdb : (x == ("__debug__" : Str)) = false := by decide)
    (he : starEach (e :: es) X.env = (false, eval e X.env) :: starEach es X.env := by rfl) (hpl : (backTo pos (starEach es X.env)).any (·.1) = false := by rfl) : PE X (.Call (.Name x p) (e :: es) [] pos) (tCallV sp E t) := ⟨fun pins s σ H Q I h => by
  obtain ⟨f, F, hm, hk⟩ := G.ex
  refine wpAny_Call_Name_kw (ld_glob I hg hm (PySem.W.callWith_K (h₀ := X.base) I.ok.mod.kin hk (thn (ha.run pos pins s σ H _ I h) ?_) he hpl) hdb)
  rintro us s1 ⟨vs, H1, I1, r, q⟩
  exact ⟨I1.kIn, wpAny_call (run_fnR F hr hx I1 r q)⟩⟩
theorem pe_gR0 (G : FnV X.prog X.w X.K X.mg X.base CX k x sp) (hr : Room k X.A) (hx : Passes CX X E) (hg : Gl X x := by rfl) (hdb : (x == ("__debug__" : Str)) = false := by decide) : PE X (.Call (.Name x p) [] [] pos) (tCallV sp E tNil) := ⟨fun pins s σ H Q I h => by
  obtain ⟨f, F, hm, hk⟩ := G.ex
  refine wpAny_Call_Name_kw (ld_glob I hg hm ?_ hdb)
  exact PySem.W.callWith_K0 I.kIn hk (wpAny_call (run_fnR (us := []) F hr hx I .nil h))⟩
theorem pe_gS (G : FnV X.prog X.w X.K X.mg X.base CX k x sp) (hr : Room k X.A) (hx : Passes CX X E) (he : PE X e te) (hg : Gl X x := by rfl) (hdb : (x == ("__debug__" : Str)) = false := by decide)
    (hst : starEach [.Starred e sp_] X.env = [(true, eval e X.env)] := by rfl) : PE X (.Call (.Name x p) [.Starred e sp_] [] pos) (tCallVS X.K sp E te) := by
  obtain ⟨f, F, hm, hk⟩ := G.ex
  exact StX.pe_callS1 F hr hk hg hm hx he hdb hst
end
section
variable {K : PySem.W.Frag} {ρ : Rho} {tr : TA} {te : TE} {P : PrD} {E : XK} {ds : List D} {z : D}
theorem ev_callV (ha : EvA K tr ρ ds) (hl : ds.length ≤ 100000) (hp : P [.tup ds] (fun s => s = .im z) (fun _ => False)) : EvD K (tCallV (spV K P) E tr) ρ z := fun M T0 H T σ X Q e q =>
  ha M T0 H T σ X _ e fun vs H1 T1 s1 t1 e1 i1 => by
    refine ⟨[], vs, rfl, rfl, by rw [i1.len]; exact Nat.le_trans hl (by decide), fun p hpn => ?_⟩
    obtain ⟨s2, e2⟩ := e1.new (o := .tup vs) hpn
    obtain ⟨L, r, o, f⟩ := e2.ex
    refine ⟨_, _, [.tup ds], _, _, o, ⟨_, _, rfl, ⟨p, vs, rfl, .inl (.inl upd_same), i1.up s2⟩, rfl⟩, hp, fun s v H' T' hs s' t' hr => ?_, fun _ _ _ _ _ _ h => h.elim⟩
    subst hs
    obtain ⟨e3, iz⟩ := e2.ret_im r f s' t' hr
    exact q v H' T' (s1.trans (s2.trans s')) (t1.trans ((same_new hpn).trans t')) e3 iz
theorem ev_callVL (ha : EvD K te ρ (.lst ds)) (hl : ds.length ≤ 100000) (hp : P [.tup ds] (fun s => s = .im z) (fun _ => False)) : EvD K (tCallVS K (spV K P) E te) ρ z := fun M T0 H T σ X Q e q =>
  ha M T0 H T σ X _ e fun v H1 T1 s1 t1 e1 i1 => by
    obtain ⟨a, vs, rfl, h1, i1⟩ := i1
    refine ⟨a, vs, rfl, .inr (.inl (.inl (e1.same _ _ h1))), [], vs, rfl, rfl, by rw [i1.len]; exact Nat.le_trans hl (by decide), fun p hpn => ?_⟩
    obtain ⟨s2, e2⟩ := e1.new (o := .tup vs) hpn
    obtain ⟨L, r, o, f⟩ := e2.ex
    refine ⟨_, _, [.tup ds], _, _, o, ⟨_, _, rfl, ⟨p, vs, rfl, .inl (.inl upd_same), i1.up s2⟩, rfl⟩, hp, fun s v H' T' hs s' t' hr => ?_, fun _ _ _ _ _ _ h => h.elim⟩
    subst hs
    obtain ⟨e3, iz⟩ := e2.ret_im r f s' t' hr
    exact q v H' T' (s1.trans (s2.trans s')) (t1.trans ((same_new hpn).trans t')) e3 iz
end
end FS
set_option Elab.async false
set_option linter.all false
set_option maxRecDepth 100000
set_option maxHeartbeats 4000000
/-! A list that is lent to a def that changes it. -/
namespace FS
open PySem PySem.Spec PyProof.Rows L2
section
variable {K : PySem.W.Frag} {E : L2.WX} {ρ : Rho} {P : Pst} {te ta tb to : TE} {tz : TS} {T H : Hp} {d x y : D} {l : List D} {i j n : Nat} {π : List Nat} {a : Addr}
theorem el_ixA {k : Int} (e : ρ[i]? = some (.cl d)) (ha : EvL K ta ρ i π) (hd : D.at π d = some (.lsa a l)) (hb : EvD K tb ρ (.int k)) (hj : ixN l.length k = some j) : EvL K (tOp (rIx K) ta tb) ρ i (π ++ [j]) := fun M T0 H T σ X Q h q =>
  ha M T0 H T σ X _ h fun u H1 T1 s1 t1 e1 ⟨v, n1, n2⟩ => hb M T0 H1 T1 σ X _ e1 fun w H2 T2 s2 t2 e2 iw => by
    obtain ⟨v', u', Ls, L0, h1, ⟨eu, vs, Lt, eL, hl⟩, h3, h4, _⟩ := e2.spot e hd
    rw [n1] at h1
    cases h1
    have eu' := Nav.eq (n2.up t2) h3
    subst eu'
    subst eu
    have hT : T2 a = some (.lst vs) := h4.here rfl (a, .lst vs) (by rw [eL]; exact List.mem_cons_self)
    have hlen := hl.len
    have hjl : j < vs.length := by
      rw [hlen]
      unfold ixN at hj
      split at hj
      · split at hj
        · cases hj
          omega
        · cases hj
      · split at hj
        · cases hj
          omega
        · cases hj
    obtain ⟨z, hz⟩ := get_some hjl
    refine .inl ⟨a, vs, k, z, rfl, iw, .inl (.inl hT), atI_of (by rw [hlen]; exact hj) hz, q z H2 T2 (s1.trans s2) (t1.trans t2) e2 ⟨v, n1, ?_⟩⟩
    exact Nav.snoc (v := z) (a := z) h3 (.inl ⟨vs, .inl hT, hz⟩)

theorem ws_appA (e : ρ[i]? = some (.cl d)) (hp : EvL K to ρ i π) (hd : D.at π d = some (.lsa a l)) (hv : EvC K te ρ x) (hz : l.length < 100000) (h : P.nx (ρ.set i (.cl (D.put π d (.lsa a (l ++ [x])))))) :
    Ws K E (tDrop (tBM K "list" rAppend to (tCons te tNil))) ρ P := fun M T0 H T σ Dn en k =>
  hp M T0 H T σ [] _ en fun u H1 T1 s1 t1 e1 ⟨v, n1, n2⟩ => by
    obtain ⟨v', u', Ls, L0, h1, ⟨eu, vs, Lt, eL, hl⟩, h3, h4, _⟩ := e1.spot e hd
    rw [n1] at h1
    cases h1
    have eu' := Nav.eq n2 h3
    subst eu'
    subst eu
    have hT : T1 a = some (.lst vs) := h4.here rfl (a, .lst vs) (by rw [eL]; exact List.mem_cons_self)
    refine ⟨.inl ⟨rfl, vs, .inl (.inl hT)⟩, hv M T0 H1 T1 σ [] _ e1 fun w Lw H2 T2 s2 t2 e2 iw => ?_⟩
    obtain ⟨v2, u2, Ls2, L02, g1, ⟨eu2, vs2, Lt2, eL2, hl2⟩, g3, g4, g5⟩ := e2.spot e hd
    rw [n1] at g1
    cases g1
    have ea := Nav.eq (h3.up t2) g3
    rw [eu2] at ea
    cases ea
    subst eu2
    subst eL2
    have hT2 : T2 a = some (.lst vs2) := g4.here rfl (a, .lst vs2) List.mem_cons_self
    refine ⟨a, vs2, w, rfl, rfl, hT2, by rw [hl2.len]; exact Nat.lt_of_lt_of_le hz (by decide), k.nx _ σ H2 _ h (s1.trans s2) ?_⟩
    refine g5 H2 _ [] (.lsa a (l ++ [x])) ((a, .lst (vs2 ++ [w])) :: (Lt2 ++ Lw)) (Same.refl _) ?_ ⟨rfl, _, _, rfl, hl2.app (.one iw)⟩
    have g6 := EnX.write (o' := .lst (vs2 ++ [w])) g4
    refine g6.perm (List.Perm.cons _ ?_)
    show List.Perm (Lt2 ++ (L02 ++ (Lw ++ []))) ((Lt2 ++ Lw) ++ (L02 ++ []))
    rw [List.append_nil, List.append_nil, List.append_assoc]
    exact List.Perm.append_left _ List.perm_append_comm

theorem ws_setA {k : Int} {y0 : D} (e : ρ[i]? = some (.cl d)) (hv : EvC K te ρ x) (hp : EvL K to ρ i π) (hd : D.at π d = some (.lsa a l)) (hb : EvD K tb ρ (.int k)) (hj : ixN l.length k = some j) (h0 : l[j]? = some y0) (h : P.nx (ρ.set i (.cl (D.put π d (.lsa a (l.set j x)))))) :
    Ws K E (tAsg te (gSub to tb rSetL)) ρ P := fun M T0 H T σ Dn en kk =>
  hv M T0 H T σ [] _ en fun w Lw H0 T00 s0 t0 e0 iw => hp M T0 H0 T00 σ _ _ e0 fun u H1 T1 s1 t1 e1 ⟨v, n1, n2⟩ => hb M T0 H1 T1 σ _ _ e1 fun z H2 T2 s2 t2 e2 iz => by
    obtain ⟨v2, u2, Ls2, L02, g1, ⟨eu2, vs2, Lt2, eL2, hl2⟩, g3, g4, g5⟩ := e2.spot e hd
    rw [n1] at g1
    cases g1
    have ea := Nav.eq (n2.up t2) g3
    subst ea
    subst eu2
    subst eL2
    have hT2 : T2 a = some (.lst vs2) := g4.here rfl (a, .lst vs2) List.mem_cons_self
    obtain ⟨w0, Lo, L1, L2, q1, q2, q3, q4⟩ := hl2.part h0
    refine ⟨a, vs2, k, j, rfl, iz, hT2, by rw [hl2.len]; exact hj, kk.nx _ σ H2 _ h (s0.trans (s1.trans s2)) ?_⟩
    refine g5 H2 _ [] (.lsa a (l.set j x)) ((a, .lst (vs2.set j w)) :: (L1 ++ (Lw ++ L2))) (Same.refl _) ?_ ⟨rfl, _, _, rfl, q4 H2 x w Lw (Same.refl _) (iw.up (s1.trans s2))⟩
    have g6 := EnX.write (o' := .lst (vs2.set j w)) g4
    subst q3
    have sb : List.Sublist ((a, HO.lst (vs2.set j w)) :: ((L1 ++ L2) ++ (L02 ++ (Lw ++ [])))) (((a, HO.lst (vs2.set j w)) :: (L1 ++ (Lo ++ L2))) ++ (L02 ++ (Lw ++ []))) := by
      refine List.Sublist.cons_cons _ ?_
      exact (((List.Sublist.refl _).append (List.sublist_append_right _ _))).append (List.Sublist.refl _)
    refine (g6.sub sb).perm (List.Perm.cons _ ?_)
    show List.Perm ((L1 ++ L2) ++ (L02 ++ (Lw ++ []))) ((L1 ++ (Lw ++ L2)) ++ (L02 ++ []))
    have e1 : (L1 ++ L2) ++ (L02 ++ (Lw ++ [])) = L1 ++ ((L2 ++ L02) ++ Lw) := by simp [List.append_assoc]
    have e2 : (L1 ++ (Lw ++ L2)) ++ (L02 ++ []) = L1 ++ (Lw ++ (L2 ++ L02)) := by simp [List.append_assoc]
    rw [e1, e2]
    exact List.Perm.append_left _ List.perm_append_comm

theorem ws_popA (e : ρ[i]? = some (.cl d)) (hp : EvL K to ρ i π) (hd : D.at π d = some (.lsa a l)) (hl0 : 0 < l.length) (h : P.nx (ρ.set i (.cl (D.put π d (.lsa a l.dropLast))))) : Ws K E (tDrop (tBM0 K "list" rPop to)) ρ P := fun M T0 H T σ Dn en k =>
  hp M T0 H T σ [] _ en fun u H1 T1 s1 t1 e1 ⟨v, n1, n2⟩ => by
    obtain ⟨v', u', Ls, L0, h1, ⟨eu, vs, Lt, eL, hl⟩, h3, h4, h5⟩ := e1.spot e hd
    rw [n1] at h1
    cases h1
    cases Nav.eq n2 h3
    subst eu
    subst eL
    have hT : T1 a = some (.lst vs) := h4.here rfl (a, .lst vs) List.mem_cons_self
    have hvl := hl.len
    refine ⟨.inl ⟨rfl, vs, .inl (.inl hT)⟩, a, vs, vs[vs.length - 1]'(by omega), rfl, rfl, hT, List.getElem?_eq_getElem _, k.nx _ σ H1 _ h s1 ?_⟩
    obtain ⟨L', g1, g2⟩ := erase_part (vs.length - 1) hl
    have g1' : IsCL K H1 l.dropLast vs.dropLast L' := by
      rw [drop_erase, drop_erase, ← hvl]
      exact g1
    refine h5 H1 _ [] (.lsa a l.dropLast) ((a, .lst vs.dropLast) :: L') (Same.refl _) ?_ ⟨rfl, _, _, rfl, g1'⟩
    have g6 := EnX.write (o' := .lst vs.dropLast) h4
    exact g6.sub (List.Sublist.cons_cons _ (g2.append (List.Sublist.refl _)))

theorem ws_popAtA {k : Nat} (e : ρ[i]? = some (.cl d)) (hp : EvL K to ρ i π) (hd : D.at π d = some (.lsa a l)) (hb : EvD K tb ρ (.int (k : Int))) (hk : k < l.length) (hk2 : k < 2 ^ 62) (h : P.nx (ρ.set i (.cl (D.put π d (.lsa a (l.eraseIdx k)))))) : Ws K E (tDrop (tBM K "list" rPopAt to (tCons tb tNil))) ρ P := fun M T0 H T σ Dn en kk =>
  hp M T0 H T σ [] _ en fun u H1 T1 s1 t1 e1 ⟨v, n1, n2⟩ => by
    obtain ⟨v', u', Ls, L0, h1, ⟨eu, vs, Lt, eL, hl⟩, h3, h4, h5⟩ := e1.spot e hd
    rw [n1] at h1
    cases h1
    cases Nav.eq n2 h3
    subst eu
    have hT : T1 a = some (.lst vs) := h4.here rfl (a, .lst vs) (by rw [eL]; exact List.mem_cons_self)
    refine ⟨.inl ⟨rfl, vs, .inl (.inl hT)⟩, hb M T0 H1 T1 σ [] _ e1 fun w H2 T2 s2 t2 e2 i2 => ?_⟩
    obtain ⟨v2, u2, Ls2, L02, g1, ⟨eu2, vs2, Lt2, eL2, hl2⟩, g3, g4, g5⟩ := e2.spot e hd
    rw [n1] at g1
    cases g1
    have ea := Nav.eq (h3.up t2) g3
    rw [eu2] at ea
    cases ea
    subst eu2
    subst eL2
    have hT2 : T2 a = some (.lst vs2) := g4.here rfl (a, .lst vs2) List.mem_cons_self
    have hvl := hl2.len
    refine ⟨a, vs2, (k : Int), k, vs2[k]'(by omega), rfl, by rw [show w = V.int _ from i2], hT2, by omega, by omega, ?_, List.getElem?_eq_getElem _, kk.nx _ σ H2 _ h (s1.trans s2) ?_⟩
    · rw [seqIndex_of (by omega) (by omega), Int.toNat_natCast]
    obtain ⟨L', q1, q2⟩ := erase_part k hl2
    refine g5 H2 _ [] (.lsa a (l.eraseIdx k)) ((a, .lst (vs2.eraseIdx k)) :: L') (Same.refl _) ?_ ⟨rfl, _, _, rfl, q1⟩
    have g6 := EnX.write (o' := .lst (vs2.eraseIdx k)) g4
    exact g6.sub (List.Sublist.cons_cons _ (q2.append (List.Sublist.refl _)))

theorem ws_clrA (e : ρ[i]? = some (.cl d)) (hp : EvL K to ρ i π) (hd : D.at π d = some (.lsa a l)) (h : P.nx (ρ.set i (.cl (D.put π d (.lsa a []))))) : Ws K E (tDrop (tBM0 K "list" rClear to)) ρ P := fun M T0 H T σ Dn en k =>
  hp M T0 H T σ [] _ en fun u H1 T1 s1 t1 e1 ⟨v, n1, n2⟩ => by
    obtain ⟨v', u', Ls, L0, h1, ⟨eu, vs, Lt, eL, hl⟩, h3, h4, h5⟩ := e1.spot e hd
    rw [n1] at h1
    cases h1
    have eu' := Nav.eq n2 h3
    subst eu'
    subst eu
    subst eL
    have hT : T1 a = some (.lst vs) := h4.here rfl (a, .lst vs) List.mem_cons_self
    refine ⟨.inl ⟨rfl, vs, .inl (.inl hT)⟩, a, vs, rfl, rfl, hT, k.nx _ σ H1 _ h s1 ?_⟩
    refine h5 H1 _ [] (.lsa a []) [(a, .lst [])] (Same.refl _) ?_ ⟨rfl, [], [], rfl, rfl, rfl⟩
    have g6 := EnX.write (o' := .lst []) h4
    refine g6.sub ?_
    refine List.Sublist.cons_cons _ ?_
    exact List.sublist_append_right _ _

theorem en_er (h : EvN K te ρ d) : EvN K te ρ d.er := fun M T0 H T σ X Q e q => h M T0 H T σ X _ e fun v H1 T1 s1 t1 e1 i1 => q v H1 T1 s1 t1 e1 (Is.er _ _ i1)
theorem erL_len : ∀ l : List D, (D.erL l).length = l.length
  | [] => rfl
  | d :: l => by rw [D.erL, List.length_cons, List.length_cons, erL_len l]
theorem ev_lenA (e : ρ[i]? = some (.cl (.lsa a l))) : EvD K (tCB (rLenA K) (tCons (tVar i) tNil)) ρ (.int (l.length : Int)) := by
  have h : EvD K (tCB (rLenA K) (tCons (tVar i) tNil)) ρ (.int ((D.erL l).length : Int)) := ev_now (en_cb (ena_cons (en_er (en_cl e)) ena_nil) rc_len) rfl
  rwa [erL_len] at h
theorem ev_lenC (e : ρ[i]? = some (.cl (.lst l))) : EvD K (tCB (rLenA K) (tCons (tVar i) tNil)) ρ (.int (l.length : Int)) := ev_now (en_cb (ena_cons (en_cl e) ena_nil) rc_len) rfl
theorem isCL_kn {H : Hp} : ∀ {l : List D} {vs : List V}, IsL K H l vs → IsCL K H (l.map .kn) vs []
  | [], _, h => ⟨h, rfl⟩
  | _ :: _, _, ⟨v, r, e, h1, h2⟩ => ⟨v, r, [], [], e, rfl, ⟨h1, rfl⟩, isCL_kn h2⟩
theorem ws_owkn {t : TS} (e : ρ[i]? = some (.ow l)) (h : Ws K E t (ρ.set i (.cl (.lst (l.map .kn)))) P) : Ws K E t ρ P := fun M T0 H T σ Dn en k => by
  obtain ⟨p, vs, h1, h2, h4, _, _, h6⟩ := en.own e
  have hi : i < (ρ.set i .no).length := by rw [List.length_set]; exact (List.getElem?_eq_some_iff.mp e).1
  have g := EnX.setC (i := i) (d := .lst (l.map .kn)) (v := .ref p) (Lc := [(p, .lst vs)]) h6 hi ⟨p, vs, [], rfl, rfl, isCL_kn h4⟩
  rw [List.set_set, set_self h1] at g
  exact h M T0 H T σ Dn g k
end
/-- the promise of a def that changes the list it is handed first, and tells nothing -/
def PrM := List D → List D → (List D → Prop) → Prop
def spM (K : PySem.W.Frag) (Pm : PrM) : Sp := fun vs T Q _ => ∃ (a : Addr) (us : List V) (M : Op) (H T0 : Hp) (L : Op) (l ds : List D) (R : List D → Prop), vs = .ref a :: us ∧ IsC K H (.lsa a l) (.ref a) L ∧ Opn H T (L ++ M) ∧ IsL K H ds us ∧ Pm l ds R ∧ Same T0 T ∧ (∀ x ∈ L, T0 x.1 = none) ∧
  ∀ l' L' H' T', R l' → Same H H' → Same T0 T' → IsC K H' (.lsa a l') (.ref a) L' → Opn H' T' (L' ++ M) → (∀ x ∈ L', T0 x.1 = none) → Q .non T'
section
variable {K : PySem.W.Frag} {E : L2.WX} {ρ : Rho} {P : Pst} {tr : TA} {tz : TS} {l ds : List D} {i : Nat} {Pm : PrM} {Ex : XK}
/-- f(x, ..), x an open list here -/
theorem ws_callM (e : ρ[i]? = some (.cl (.lst l))) (ha : EvA K tr ρ ds) (h : Pm l ds (fun l' => P.nx (ρ.set i (.cl (.lst l'))))) : Ws K E (tDrop (tCall (spM K Pm) [] Ex (tCons (tVar i) tr))) ρ P := fun M T0 H T σ Dn en k => by
  obtain ⟨x0, Ls0, g1, g2, _⟩ := en.take e
  obtain ⟨v, rfl, hc0⟩ := g2.cl1
  refine ⟨v, g1, ha M T0 H T σ [] _ en fun us H1 T1 s1 t1 e1 i1 => ?_⟩
  obtain ⟨x1, Ls, h1, h2, h3⟩ := e1.take e
  obtain ⟨v1, rfl, hc⟩ := h2.cl1
  have ev : v = v1 := by
    rw [g1] at h1
    cases h1
    rfl
  subst ev
  obtain ⟨a, vs, Lt, rfl, rfl, hl⟩ := hc
  obtain ⟨L, r, o, f⟩ := h3.ex
  show spM K Pm ((V.ref a :: us) ++ []) T1 _ Ex
  rw [List.append_nil]
  have as1 : ∀ L' : Op, (L' ++ []) ++ (L ++ M) = L' ++ (L ++ M) := fun L' => by rw [List.append_nil]
  refine ⟨a, us, L ++ M, H1, T0, (a, .lst vs) :: Lt, l, ds, _, rfl, ⟨rfl, vs, Lt, rfl, hl⟩, by rw [← as1]; exact o, i1, h, e1.t0, fun x hx => f x (List.mem_append_left _ (List.mem_append_left _ hx)), fun l' L' H' T' hR s' t' ic o' f' => ?_⟩
  obtain ⟨_, vs', Lt', rfl, hl'⟩ := ic
  have g : EnX K M T0 H' T' σ (ρ.set i .no) (((a, .lst vs') :: Lt') ++ []) := ⟨⟨L, r.up s', by rw [as1]; exact o', fun x hx => by
    rcases List.mem_append.mp hx with hx | hx
    · rw [List.append_nil] at hx
      exact f' x hx
    · exact f x (List.mem_append_right _ hx)⟩, t'⟩
  have hi : i < (ρ.set i .no).length := by rw [List.length_set]; exact (List.getElem?_eq_some_iff.mp e).1
  have g2 := EnX.setC (i := i) (d := .lst l') (v := .ref a) (Lc := (a, .lst vs') :: Lt') g hi ⟨a, vs', Lt', rfl, rfl, hl'⟩
  rw [List.set_set, set_self h1] at g2
  exact k.nx _ σ H' T' hR (s1.trans s') g2
theorem wq_callM (e : ρ[i]? = some (.cl (.lst l))) (ha : EvA K tr ρ ds) (h : Pm l ds (fun l' => Ws K E tz (ρ.set i (.cl (.lst l'))) P)) : Ws K E (tSeq (tDrop (tCall (spM K Pm) [] Ex (tCons (tVar i) tr))) tz) ρ P := ws_seq (ws_callM e ha h)
theorem read_mut {t : TS} {vs : List V} {T : Hp} {Q : VK} {N : List Str} (h : spM K Pm vs T Q Ex)
    (hw : ∀ a l ds R, Pm l ds R → Ws K (upX Ex) t (.cl (.lsa a l) :: (ds.map .im ++ List.replicate (N.length - (ds.length + 1)) .no)) { nx := fun ρ' => ∃ l', ρ'[0]? = some (.cl (.lsa a l')) ∧ R l', ex := fun _ _ => False }) :
    t { nx := fun _ H' => Q .non H', rt := Q } (L2.start N vs) T := by
  obtain ⟨a, us, M, H, T0, L, l, ds, R, rfl, ic, o, hi, p, t0, f, k⟩ := h
  have r := EnR.start hi (N.length - (ds.length + 1))
  have e : L2.start N (.ref a :: us) = some (.ref a) :: (us.map some ++ List.replicate (N.length - (ds.length + 1)) none) := by
    unfold L2.start
    rw [List.length_cons, hi.len]
    rfl
  rw [e]
  have r2 := EnR.cl ic r
  rw [List.append_nil] at r2
  refine hw a l ds R p M T0 H T _ _ ⟨⟨_, r2, o, fun y hy => f y hy⟩, t0⟩ ⟨fun ρ' σ' H' T' ⟨l', q1, q2⟩ s' e' => ?_, fun _ _ _ _ q => q.elim, fun _ _ _ _ q => q.elim, fun _ _ _ _ q => q.elim, fun _ _ _ _ _ _ _ _ q => q.elim⟩
  obtain ⟨x', Ls, h1, h2, h3⟩ := e'.take q1
  obtain ⟨v, rfl, hc⟩ := h2.cl1
  obtain ⟨rfl, vs', Lt, rfl, hl⟩ := hc
  obtain ⟨g1, g2⟩ := EnX.give h3
  exact k l' _ H' T' q2 s' e'.t0 ⟨rfl, vs', Lt, rfl, hl⟩ g1 g2
theorem len_mut {n : Nat} (hl : ∀ l ds R, Pm l ds R → ds.length + 1 = n) {vs : List V} {T : Hp} {Q : VK} (h : spM K Pm vs T Q Ex) : vs.length = n := by
  obtain ⟨a, us, M, H, T0, L, l, ds, R, rfl, _, _, hi, p, _⟩ := h
  rw [List.length_cons, hi.len]
  exact hl l ds R p
end
section
variable {P : Program} {w : World} {K : PySem.W.Frag} {mg : Str → Option Value} {base : Heap} {x : Str} {st : Stmt} {N ps : List Str} {k : Nat} {Pm : PrM}
theorem Df.okM (F : Df K mg x st ps) (S : FnScope N ps (defScope st)) (len : ∀ l ds R, Pm l ds R → ds.length + 1 = ps.length)
    (hbody : ∀ (f : Addr) (cdv : Value) (A : Around) (outer : List Env) (s : Shared) (H : Hp) (E : XK), Room k (A.deeper (envOfC x (defScope st) s.heap.objs.size f cdv)) →
      ∃ t, PSs (cxOf CX0 P w K mg base N x (defScope st) f cdv A outer s H E).nox (defBody st) t ∧ ∀ a l ds R, Pm l ds R → Ws K (upX E) t (.cl (.lsa a l) :: (ds.map .im ++ List.replicate (N.length - (ds.length + 1)) .no)) { nx := fun ρ' => ∃ l', ρ'[0]? = some (.cl (.lsa a l')) ∧ R l', ex := fun _ _ => False }) :
    FnG P w K mg base CX0 (k + 1) x ps (spM K Pm) := by
  obtain ⟨f, fd, F, hm, hb⟩ := F.ex
  refine ⟨f, fd, F.ok S (fun vs H Q E h => len_mut len h) (fun cdv A outer s H vs Q E hr h => ?_), hm, F.kp, hb⟩
  obtain ⟨t, h1, h2⟩ := hbody f cdv A outer s H E hr
  exact ⟨t, h1, read_mut h h2⟩
end
end FS
set_option Elab.async false
set_option linter.all false
set_option maxRecDepth 100000
set_option maxHeartbeats 4000000
/-! Classmethods that may raise; cls(..). -/
namespace FS
open PySem PySem.Spec PyProof.Rows L2
theorem run_fnC {X : Cx} {CX : CXT} {k : Nat} {f : Addr} {fd : FuncData} {ps : List Str} {sp : Sp} {E : XK} {pins : List (Addr × Obj)} {σ : L2.St} {H : Hp} {s : Shared} {Q : VK} {us : List Value} {vs : List V} (F : FnOk X.prog X.w X.K X.mg X.base CX k f fd ps sp) (hr : Room k X.A) (hb : Binds X.K fd ps []) (hx : PassesAt CX X σ E)
    (I : Inv X pins σ H s) (r : Vals vs us) (h : sp vs H Q E) : codeAny (model X.prog X.w) X.A (.call (.ref f) ⟨us, []⟩) (fun r s' => match r with | .ok (.ret v) => EP X pins σ Q v s' | .ok _ => False | .error e => X.xe e s') s := by
  have hl : us.length = ps.length := by rw [← r.length]; exact F.len _ _ _ _ h
  have b := hb s us I.kIn (by rw [List.append_nil]; exact hl)
  rw [List.append_nil] at b
  refine codeAny_mono (F.run X.A X.stack s H ⟨us, []⟩ us vs Q E hr I.env0 b r h) fun r s' hq => ?_
  cases r with
  | error e => exact hx pins H s e s' I hq
  | ok fl =>
    cases fl with
    | ret u => exact I.after hq
    | next => exact False.elim hq
    | brk => exact False.elim hq
    | cont => exact False.elim hq
/-- a classmethod of the text -/
structure Dc (K : PySem.W.Frag) (C : Addr) (m qual : Str) (st : Stmt) (ps : List Str) : Prop where
  ex : ∃ p f fd, Fun K m qual st f fd ∧ ClX.CRead K C (.type "type") ∧ ClX.CMet K C (.type "type") m p f ∧ Binds K fd ps []
structure FnC (P : Program) (w : World) (K : PySem.W.Frag) (mg : Str → Option Value) (base : Heap) (CX : CXT) (k : Nat) (C : Addr) (m : Str) (ps : List Str) (sp : Sp) : Prop where
  ex : ∃ p f fd, FnOk P w K mg base CX k f fd ps sp ∧ ClX.CRead K C (.type "type") ∧ ClX.CMet K C (.type "type") m p f ∧ Binds K fd ps []
theorem Dc.okN {P : Program} {w : World} {K : PySem.W.Frag} {mg : Str → Option Value} {base : Heap} {m qual : Str} {st : Stmt} {N ps : List Str} {k : Nat} {Pr : PrD} {C : Addr} (F : Dc K C m qual st ps) (S : FnScope N ps (defScope st)) (len : ∀ ds R Z, Pr ds R Z → ds.length = ps.length)
    (hbody : ∀ (f : Addr) (cdv : Value) (A : Around) (outer : List Env) (s : Shared) (H : Hp) (E : XK), Room k (A.deeper (envOfC qual (defScope st) s.heap.objs.size f cdv)) →
      ∃ t, PSs (cxOf (L2N.CX P w) P w K mg base N qual (defScope st) f cdv A outer s H E) (defBody st) t ∧ ∀ ds R Z, Pr ds R Z → Ws K (upX E) t (ds.map .im ++ List.replicate (N.length - ds.length) .no) { nx := fun _ => R (.im .non), rt := R, ex := fun _ => Z }) :
    FnC P w K mg base (L2N.CX P w) (k + 1) C m ps (spD K Pr) := by
  obtain ⟨p, f, fd, F, h1, h2, hb⟩ := F.ex
  refine ⟨p, f, fd, fun_okN F S (fun vs H Q E h => len_fn len h) (fun cdv A outer s H vs Q E hr h => ?_), h1, h2, hb⟩
  obtain ⟨t, h1, h2⟩ := hbody f cdv A outer s H E hr
  exact ⟨t, h1, read_fn h h2⟩
/-- the class ahead of the arguments -/
def tRecvC (C : Addr) (ta : TE) (tr : TA) : TA := fun σ H Q => ta σ H fun x H1 => x = .ref C ∧ tr σ H1 fun vs H2 => Q (x :: vs) H2
section
variable {X : Cx} {W : WX} {k i : Nat} {x m : Str} {C : Addr} {ps : List Str} {sp : Sp} {e o : Expr} {es : List Expr} {t : TA} {ta : TE} {p p2 pos pos2 apos : Pos} {pl : Sem Bool}
theorem pe_cmX (G : FnC X.prog X.w X.K X.mg X.base (L2N.CX X.prog X.w) k C m ps sp) (hr : Room k X.A) (tk : L2N.Takes X W) (he : PE X o ta) (ha : PA X (e :: es) t)
    (hst : starEach (e :: es) X.env = (false, eval e X.env) :: starEach es X.env := by rfl) (hpl : (backTo pos (starEach es X.env)).any (·.1) = false := by rfl)
    (ht : eval (.Call (.Attribute o m apos) (e :: es) [] pos) X.env = (eval o X.env >>= fun ov => standAt apos.atName >>= fun _ => holding [ov] (getMethod ov m pl) >>= fun r => callWith pos r.1 r.2 (backTo pos (starEach (e :: es) X.env)) (backToKw pos (keywordEach [] X.env))) := by rfl) :
    PE X (.Call (.Attribute o m apos) (e :: es) [] pos) (tCallS sp (WE W) (tRecvC C ta t)) := ⟨fun pins s σ H Q I h => by
  obtain ⟨p, f, fd, F, r, c, hb⟩ := G.ex
  refine PySem.W.methodCall_KW (pl := pl) (thn (he.run pins s σ H _ I h) fun u s1 ⟨x, H1, I1, rx, ex, q⟩ => ?_) ht
  subst ex
  obtain rfl : u = Value.ref C := rx
  refine ClX.getmethcm_ok I1 r c fun s2 I2 => ?_
  refine ClX.callwith_cm I2 (ClX.base_none I1 (Nat.le_refl _)) c.fi (thn (ha.run pos _ s2 σ H1 _ I2 q) fun us s3 ⟨vs, H2, I3, rv, q2⟩ => ⟨⟨ClX.pin_at I3, I3.kIn⟩, ?_⟩) hst hpl
  have z := wpAny_call (PySem.W.method_call (ClX.pin_at I3) (run_fnC (us := .ref C :: us) (vs := .ref C :: vs) F hr hb (L2N.passAt tk σ) I3 (.cons rfl rv) q2))
  exact thn z fun _ _ y => ClX.unpinE y⟩
/-- cls(e, ..), cls a local -/
def tMakeL (i : Nat) (C : Addr) (sp : Sp) (W : WX) (t : TA) : TE := fun σ H Q => σ[i]? = some (some (.ref C)) ∧ tMakeW C sp W t σ H Q
theorem pe_mkL {y : Str} (G : FnI X.prog X.w X.K X.mg X.base (L2N.CX X.prog X.w) k C y ps sp) (hr : Room (k + 1) X.A) (tk : L2N.Takes X W) (hN : X.N[i]? = some x) (hv : Vis X.env.scope x) (ha : PA X (e :: es) t) (hdb : (x == ("__debug__" : Str)) = false := by decide) (hcd : (x == ("__classdict__" : Str)) = false := by decide)
    (he : starEach (e :: es) X.env = (false, eval e X.env) :: starEach es X.env := by rfl) (hpl : (backTo pos (starEach es X.env)).any (·.1) = false := by rfl) : PE X (.Call (.Name x p) (e :: es) [] pos) (tMakeL i C sp W t) := ⟨fun pins s0 σ H Q I0 h => by
  obtain ⟨hs, h⟩ := h
  obtain ⟨f, fd, F, M, hC, hb⟩ := G.ex
  refine wpAny_Call_Name_kw (thn ((pe_var (pos := p) hN hv hdb hcd).run pins s0 σ H (fun v H1 => v = .ref C ∧ H1 = H) I0 ⟨.ref C, hs, rfl, rfl⟩) fun u s ⟨v, H1, I, r1, q1⟩ => ?_)
  obtain ⟨rfl, rfl⟩ := q1
  obtain rfl : u = Value.ref C := r1
  refine PySem.W.callWith_K (h₀ := X.base) I.ok.mod.kin M.kp (thn (ha.run pos pins s σ H1 _ I h) ?_) he hpl
  rintro us s1 ⟨vs, H1, I1, r, q⟩
  refine ⟨I1.kIn, ?_⟩
  have hq := q (s1.heap.objs.size + 1) s1.heap.objs.size (I1.hok.fresh (Nat.le_succ _)) (I1.hok.fresh (Nat.le_refl _)) (Nat.ne_of_lt (Nat.lt_succ_self _))
  rw [List.append_nil] at hq
  have J := Inv.made (C := C) I1
  have rr : Vals (V.ref (s1.heap.objs.size + 1) :: vs) (Value.ref (s1.heap.objs.size + 1) :: us) := .cons rfl r
  have hb2 := hb _ (Value.ref (s1.heap.objs.size + 1) :: us) J.kIn (by rw [List.append_nil]; exact rr.length.symm.trans (F.len _ _ _ _ hq))
  rw [List.append_nil] at hb2
  refine wpAny_call (make_map (f := f) I1.kIn M.makes M.init (beq_iff_eq.mp M.fn) (codeAny_mono (F.run _ X.stack _ _ ⟨_, []⟩ _ _ _ _ (hr.make C us []) (J.env0.make C us []) hb2 rr hq) fun r s' z => ?_))
  match r with
  | .error e' => exact L2N.passAt tk σ pins _ _ e' s' J z
  | .ok (.ret u) =>
    obtain ⟨v, H', I3, rv, ev, q3⟩ := J.after z
    subst ev
    exact ⟨rv, V.ref (s1.heap.objs.size + 1), H', I3, rfl, q3⟩
  | .ok .next => exact False.elim z
  | .ok .brk => exact False.elim z
  | .ok .cont => exact False.elim z⟩
end
section
variable {K : PySem.W.Frag} {ρ : Rho} {d z : D} {ds : List D} {tr : TA} {ta : TE} {W : WX} {C : Addr} {i : Nat}
theorem eva_recvC (ha : EvD K ta ρ (.obj C)) (hr : EvA K tr ρ ds) : EvA K (tRecvC C ta tr) ρ (.obj C :: ds) := fun M T0 H T σ X Q e q =>
  ha M T0 H T σ X _ e fun v H1 T1 s1 t1 e1 i1 => by
    obtain rfl : v = .ref C := i1
    exact ⟨rfl, hr M T0 H1 T1 σ X _ e1 fun us H2 T2 s2 t2 e2 i2 => q _ H2 T2 (s1.trans s2) (t1.trans t2) e2 (.cons rfl i2)⟩
theorem ec_mkL {P : List D → (D → Prop) → (Exn → Prop) → Prop} (e : ρ[i]? = some (.im (.obj C))) (hr : EvA K tr ρ ds) (hp : P ds (fun d => d = z) (fun _ => False)) : EvC K (tMakeL i C (spMk K C P) W tr) ρ z := fun M T0 H T σ X Q en q => by
  obtain ⟨v, h1, h2⟩ := en.get e
  obtain rfl : v = .ref C := h2
  exact ⟨h1, ec_mkX hr hp M T0 H T σ X Q en q⟩
theorem ez_mkL {P : List D → (D → Prop) → (Exn → Prop) → Prop} {x : Exn} (e : ρ[i]? = some (.im (.obj C))) (hr : EvA K tr ρ ds) (hp : P ds (fun _ => False) (fun z' => z' = x)) : EvZ K W (tMakeL i C (spMk K C P) W tr) ρ x := fun M T0 H T σ X Q en q => by
  obtain ⟨v, h1, h2⟩ := en.get e
  obtain rfl : v = .ref C := h2
  exact ⟨h1, ez_mkX hr hp M T0 H T σ X Q en q⟩
end
/-! ### a constant that is a tuple of integers -/
structure TupC (K : PySem.W.Frag) (mg : Str → Option Value) (x : Str) (ns : List Int) : Prop where
  ex : ∃ a : Addr, mg x = some (.ref a) ∧ ∀ H, SqT K H a (ns.map V.int)
def tTC (K : PySem.W.Frag) (ns : List Int) : TE := fun _ H Q => ∀ a : Addr, (∀ H, SqT K H a (ns.map V.int)) → Q (.ref a) H
theorem pe_tupc {X : Cx} {x : Str} {ns : List Int} {pos : Pos} (K : PySem.W.Frag) (h : TupC K X.mg x ns) (hg : Gl X x := by rfl) (hd : (x == ("__debug__" : Str)) = false := by decide) : PE X (.Name x pos) (tTC K ns) := ⟨fun pins s σ H Q I q => by
  obtain ⟨a, hm, hs⟩ := h.ex
  exact ld_glob I hg hm ⟨.ref a, H, I, rfl, q a hs⟩ hd⟩
theorem ev_tupc {K : PySem.W.Frag} {ρ : Rho} {ns : List Int} : EvD K (tTC K ns) ρ (.tup (ns.map .int)) := fun M T0 H T σ X Q e q => fun a hs => q (.ref a) H T (Same.refl _) (Same.refl _) e ⟨a, _, rfl, hs H, isL_ints ns⟩
/-! ### isinstance of the handled error against several classes -/
section
variable {K : PySem.W.Frag} {ρ : Rho} {a : Addr} {od : Option Addr} {ns : List Str} {ds dcs : List D} {i : Nat} {tr : TA} {C : Addr} {us : List Value} {b : Bool}
theorem paired_cls {H : Hp} : ∀ {dcs : List D} {us : List Value} {vs : List V}, dcs.map clsD = us.map some → IsL K H dcs vs → Paired ClsV vs us
  | [], [], _, _, h => by
    obtain rfl : _ = [] := h
    exact .nil
  | [], _ :: _, _, e, _ => by cases e
  | _ :: _, [], _, e, _ => by cases e
  | _ :: _, _ :: _, _, e, ⟨v, r, ev, h1, h2⟩ => by
    subst ev
    rw [List.map_cons, List.map_cons] at e
    injection e with e1 e2
    exact .cons (clsD_ok e1 h1) (paired_cls e2 h2)
theorem ev_isXTn (e : ρ[i]? = some (.im (.exc a od ns ds))) (hr : EvA K tr ρ dcs) (hl : dcs.length ≤ 1000) (h : dcs.map clsD = us.map some) (hE : ExcC K C) (hk : PySem.W.kitAny K (.ref C) us = some b) : EvD K (tCB (rIsXT K a (.ref C) od) (tCons (tVar i) (tCons (tTup tr) tNil))) ρ (.bl b) := fun M T0 H T σ X Q en q => by
  obtain ⟨v, g1, g2⟩ := en.get e
  refine ⟨v, g1, hr M T0 H T σ X _ en fun vs H1 T1 s1 t1 e1 i1 => ⟨by rw [i1.len]; exact Nat.le_trans hl (by decide), fun p hp => ?_⟩⟩
  obtain ⟨s2, e2⟩ := e1.new (o := .tup vs) hp
  obtain ⟨rfl, hd⟩ := exc_dict (g2.up (s1.trans (s2.trans e2.same)))
  exact ⟨p, vs, us, b, C, rfl, upd_same, paired_cls h i1, rfl, hE, hd, hk, q _ _ _ (s1.trans s2) (t1.trans (same_new hp)) e2 rfl⟩
end
end FS
set_option Elab.async false
set_option linter.all false
set_option maxRecDepth 100000
set_option maxHeartbeats 4000000
/-! All that stands may be read while something fresh is made. -/
namespace FS
open PySem PySem.Spec PyProof.Rows L2
/-- a slot as it may be read now -/
def frz : Sl → Sl
  | .cl d => .im d.er
  | .ow l => .im (.lst l)
  | s => s
section
variable {K : PySem.W.Frag} {M X : Op} {T0 H H' T T' : Hp} {σ : L2.St} {ρ : Rho} {L : Op}
theorem EnR.frz (s : Same H T) (h : EnR K H ρ σ L) : (∀ x ∈ L, T x.1 = some x.2) → EnR K T (ρ.map FS.frz) σ [] := by
  induction h with
  | nil => exact fun _ => .nil
  | no _ ih => exact fun q => .no (ih q)
  | im iv _ ih => exact fun q => .im (iv.up s) (ih q)
  | ow hl _ ih => exact fun q => .im ⟨_, _, rfl, q _ List.mem_cons_self, hl.up s⟩ (ih fun x hx => q x (List.mem_cons_of_mem _ hx))
  | cl ic _ ih => exact fun q => .im (Is.er _ _ (IsC.is _ _ _ (ic.up s) fun x hx => q x (List.mem_append_left _ hx))) (ih fun x hx => q x (List.mem_append_right _ hx))
theorem EnR.frz_nil : ∀ {ρ : Rho} {σ : L2.St} {L : Op}, EnR K H (ρ.map FS.frz) σ L → L = []
  | [], _, _, h => by
    cases h
    rfl
  | s :: ρ, _, _, h => by
    cases s with
    | no =>
      cases h with
      | no h => exact EnR.frz_nil h
    | im d =>
      cases h with
      | im _ h => exact EnR.frz_nil h
    | ow l =>
      cases h with
      | im _ h => exact EnR.frz_nil h
    | cl d =>
      cases h with
      | im _ h => exact EnR.frz_nil h
theorem EnX.frz (e : EnX K M T0 H T σ ρ X) : EnX K [] T T T σ (ρ.map FS.frz) [] := by
  obtain ⟨L, r, o, f⟩ := e.ex
  exact ⟨⟨[], EnR.frz o.same r fun x hx => o.at_ x (List.mem_append_right _ (List.mem_append_left _ hx)), Opn.all, fun _ h => (nomatch h)⟩, Same.refl _⟩
end
section
variable {K : PySem.W.Frag} {ρ : Rho} {te : TE} {tt : TT} {z : D} {b : Bool}
/-- .. a fresh tree -/
theorem ec_lent (h : EvC K te (ρ.map frz) z) (hk : z.kf = true) : EvC K te ρ z := fun M T0 H T σ X Q e q =>
  h [] T T T σ [] Q e.frz fun v L H1 T1 s1 t1 e1 iw => by
    obtain ⟨L', r, o, f⟩ := e1.ex
    have e0 := EnR.frz_nil r
    subst e0
    refine q v L H T1 (Same.refl _) t1 (e.lentC t1 s1 (by simpa using o) fun x hx => f x (by simpa using hx)) (IsC.any z v L hk iw)
/-- .. a number, a text -/
theorem ed_lent (h : EvD K te (ρ.map frz) z) (hz : z.sc = true) : EvD K te ρ z := fun M T0 H T σ X Q e q =>
  h [] T T T σ [] Q e.frz fun v H1 T1 s1 t1 e1 i1 => q v H T1 (Same.refl _) t1 (e.lent t1) (i1.any hz)
/-- .. something that is read at once -/
theorem en_lent (h : EvD K te (ρ.map frz) z) : EvN K te ρ z := fun M T0 H T σ X Q e q =>
  h [] T T T σ [] Q e.frz fun v H1 T1 s1 t1 e1 i1 => q v H T1 (Same.refl _) t1 (e.lent t1) (i1.up e1.same)
theorem et_lent (h : EvT K tt (ρ.map frz) b) : EvT K tt ρ b := fun M T0 H T σ X Q e q =>
  h [] T T T σ [] Q e.frz fun H1 T1 s1 t1 e1 => q H T1 (Same.refl _) t1 (e.lent t1)
end
theorem same_upd {H T : Hp} {d : Addr} {o : HO} (s : Same H T) (h : T d = some o) : Same (upd H d o) T := fun b u hb => by
  by_cases e : b = d
  · subst e
    rw [upd_same] at hb
    rw [h, hb]
  · rw [upd_ne e] at hb
    exact s _ _ hb
/-- .. or it raises something of numbers and texts -/
theorem ez_lent {K : PySem.W.Frag} {ρ : Rho} {te : TE} {W : WX} {z : Exn} (h : EvZ K W te (ρ.map frz) z) (hz : ∀ d ∈ z.2.2, d.sc = true) : EvZ K W te ρ z := fun M T0 H T σ X Q e q =>
  h [] T T T σ [] Q e.frz fun od H1 T1 s1 t1 e1 hx => by
    rcases hx with hx | ⟨d, vs, rfl, h2, h3, h4⟩
    · exact q od H T1 (Same.refl _) t1 (e.lent t1) (.inl hx)
    · have hT : T1 d = some (.xd (z.2.1.zip vs)) := e1.same _ _ h2
      have hH : H d = none := e.same.free h4
      obtain ⟨L, r, o, f⟩ := e.ex
      have hn : ∀ x ∈ X ++ (L ++ M), x.1 ≠ d := fun x hx ex => by
        have := o.at_ x hx
        rw [ex, h4] at this
        cases this
      refine q (some d) (upd H d (.xd (z.2.1.zip vs))) T1 (same_new hH) t1 ⟨⟨L, r.up (same_new hH), ⟨same_upd (o.same.trans t1) hT, fun x hx => by rw [upd_ne (hn x hx)]; exact o.free x hx, fun x hx => t1 _ _ (o.at_ x hx), o.nd, o.nt⟩, f⟩, e.t0.trans t1⟩ (.inr ⟨d, vs, rfl, upd_same, ?_, h4⟩)
      have : ∀ (l : List D) (us : List V), (∀ d ∈ l, d.sc = true) → IsL K H1 l us → IsL K (upd H d (.xd (z.2.1.zip vs))) l us := by
        intro l
        induction l with
        | nil => exact fun us _ h => h
        | cons d l ih =>
          intro us hsc h
          obtain ⟨v, r, e, g1, g2⟩ := h
          exact ⟨v, r, e, g1.any (hsc d List.mem_cons_self), ih r (fun x hx => hsc x (List.mem_cons_of_mem _ hx)) g2⟩
      exact this _ _ hz h3
/-! data without open ends read as they are -/
theorem er_ints (l : List Int) : (intsD l).er = intsD l := by
  have e : ∀ r : List Int, D.erL (r.map D.int) = r.map D.int := by
    intro r
    induction r with
    | nil => rfl
    | cons a r ih => rw [List.map_cons, D.erL, ih] <;> rfl
  rw [intsD, D.er, e]
theorem erL_id : ∀ {l : List D}, (∀ d ∈ l, d.er = d) → D.erL l = l
  | [], _ => rfl
  | d :: l, h => by rw [D.erL, h d List.mem_cons_self, erL_id fun x hx => h x (List.mem_cons_of_mem _ hx)]
theorem er_lst {l : List D} (h : ∀ d ∈ l, d.er = d) : (D.lst l).er = .lst l := by rw [D.er, erL_id h]
theorem IsL.scal {K : PySem.W.Frag} {H1 H2 : Hp} : ∀ {l : List D} {us : List V}, (∀ d ∈ l, d.sc = true) → IsL K H1 l us → IsL K H2 l us
  | [], _, _, h => h
  | d :: l, _, hsc, ⟨v, r, e, g1, g2⟩ => ⟨v, r, e, g1.any (hsc d List.mem_cons_self), IsL.scal (fun x hx => hsc x (List.mem_cons_of_mem _ hx)) g2⟩
theorem EnX.lentX {K : PySem.W.Frag} {M X : Op} {T0 H T T' H' : Hp} {σ : L2.St} {ρ : Rho} {od : Option Addr} {ns : List Str} {es : List D} (e : EnX K M T0 H T σ ρ X) (t : Same T T') (hx : IsX K T H' od ns es) (hT : Same H' T') (hz : ∀ d ∈ es, d.sc = true) :
    ∃ Hn, Same H Hn ∧ EnX K M T0 Hn T' σ ρ X ∧ IsX K T Hn od ns es := by
  rcases hx with hx | ⟨d, vs, rfl, h2, h3, h4⟩
  · exact ⟨H, Same.refl _, e.lent t, .inl hx⟩
  · have hd : T' d = some (.xd (ns.zip vs)) := hT _ _ h2
    have hH : H d = none := e.same.free h4
    obtain ⟨L, r, o, f⟩ := e.ex
    have hn : ∀ x ∈ X ++ (L ++ M), x.1 ≠ d := fun x hx ex => by
      have := o.at_ x hx
      rw [ex, h4] at this
      cases this
    exact ⟨upd H d (.xd (ns.zip vs)), same_new hH, ⟨⟨L, r.up (same_new hH), ⟨same_upd (o.same.trans t) hd, fun x hx => by rw [upd_ne (hn x hx)]; exact o.free x hx, fun x hx => t _ _ (o.at_ x hx), o.nd, o.nt⟩, f⟩, e.t0.trans t⟩, .inr ⟨d, vs, rfl, upd_same, IsL.scal hz h3, h4⟩⟩
section
variable {K : PySem.W.Frag} {E : L2.WX} {ρ ρ' : Rho} {P : Pst} {te : TE} {tz : TS} {tr : TA} {z : D} {ds : List D} {i : Nat}
theorem ec_lentTo (hρ : ρ.map frz = ρ') (h : EvC K te ρ' z) (hk : z.kf = true) : EvC K te ρ z := ec_lent (by rw [hρ]; exact h) hk
theorem ez_lentTo {W : WX} {z : Exn} (hρ : ρ.map frz = ρ') (h : EvZ K W te ρ' z) (hz : ∀ d ∈ z.2.2, d.sc = true) : EvZ K W te ρ z := ez_lent (by rw [hρ]; exact h) hz
/-- what comes back is fresh, or a number, a text -/
def okL (P : Rho → Prop) (ρ : Rho) (i : Nat) : Sl → Prop
  | .cl z => z.kf = true ∧ P (ρ.set i (.cl z))
  | .im z => z.sc = true ∧ P (ρ.set i (.im z))
  | _ => False
theorem ws_asgXL {Pr : PrD} (hρ : ρ.map frz = ρ') (ha : EvA K tr ρ' ds) (hi : i < ρ.length) (h : Pr ds (okL P.nx ρ i) (fun z => (∀ d ∈ z.2.2, d.sc = true) ∧ P.ex ρ z)) : Ws K E (tAsg (tCallS (spD K Pr) (WE E) tr) (gName i)) ρ P := fun M T0 H T σ Dn en k => by
  have ef := en.frz
  rw [hρ] at ef
  refine ha [] T T T σ [] _ ef fun vs H1 T1 s1 t1 e1 i1 => ?_
  obtain ⟨L', r, o, f⟩ := e1.ex
  rw [← hρ] at r
  have e0 := EnR.frz_nil r
  subst e0
  refine ⟨[], H1, ds, _, _, (by simpa using o), i1, h, fun s v H' T' hs s' t' hr => ?_, fun c ns es od H' T' hz s' t' o' hx => ?_⟩
  · cases s with
    | no => exact hs.elim
    | ow l => exact hs.elim
    | im z =>
      obtain ⟨h1, h2⟩ := hs
      exact k.nx _ _ H T' h2 (Same.refl _) ((en.lent (t1.trans t')).set (hr.1.any h1))
    | cl z =>
      obtain ⟨h1, h2⟩ := hs
      obtain ⟨Lc, g1, g2, g3⟩ := hr
      have e2 := en.lentC (t1.trans t') (s1.trans s') g2 fun x hx => t1.free (g3 x hx)
      exact k.nx _ _ H T' h2 (Same.refl _) (EnX.setC e2 hi (IsC.any z v Lc h1 g1))
  · obtain ⟨h1, h2⟩ := hz
    obtain ⟨Hn, g1, g2, g3⟩ := EnX.lentX en (t1.trans t') (hx.dn t1) o'.same h1
    exact k.ex ρ σ c ns es od Hn T' h2 g1 g2 (g3.dn en.t0)
theorem wq_asgXL {Pr : PrD} (hρ : ρ.map frz = ρ') (ha : EvA K tr ρ' ds) (hi : i < ρ.length) (h : Pr ds (okL (fun ρ2 => Ws K E tz ρ2 P) ρ i) (fun z => (∀ d ∈ z.2.2, d.sc = true) ∧ P.ex ρ z)) : Ws K E (tSeq (tAsg (tCallS (spD K Pr) (WE E) tr) (gName i)) tz) ρ P := ws_seq (ws_asgXL hρ ha hi h)
end
end FS
set_option Elab.async false
set_option linter.all false
set_option maxRecDepth 100000
set_option maxHeartbeats 4000000
/-! An open list goes into a tree, and is read on by its name. -/
namespace FS
open PySem PySem.Spec PyProof.Rows L2
/-- the name j stands for x now -/
def Als (K : PySem.W.Frag) (j : Nat) (x : D) (σ : L2.St) (T : Hp) : Prop := ∃ v, σ[j]? = some (some v) ∧ Is K T x v
theorem Als.up {K : PySem.W.Frag} {j : Nat} {x : D} {σ : L2.St} {T T' : Hp} (h : Als K j x σ T) (s : Same T T') : Als K j x σ T' := let ⟨v, h1, h2⟩ := h; ⟨v, h1, h2.up s⟩
/-- from ρ on, j standing for x -/
def WsA (K : PySem.W.Frag) (E : L2.WX) (ts : TS) (ρ : Rho) (P : Pst) (j : Nat) (x : D) : Prop := ∀ (M : Op) (T0 H T : Hp) (σ : L2.St) (Dn : Ends), En K M T0 H T σ ρ → Als K j x σ T → Lk K M E T0 H P Dn → ts Dn σ T
def EvCJ (K : PySem.W.Frag) (te : TE) (ρ : Rho) (z : D) (j : Nat) (x : D) : Prop := ∀ (M : Op) (T0 H T : Hp) (σ : L2.St) (X : Op) (Q : VK), EnX K M T0 H T σ ρ X → Als K j x σ T → (∀ v L H' T', Same H H' → Same T T' → EnX K M T0 H' T' σ ρ (L ++ X) → IsC K H' z v L → Q v T') → te σ T Q
section
variable {K : PySem.W.Frag} {E : L2.WX} {ρ ρ' : Rho} {P : Pst} {te to : TE} {tz : TS} {d x z : D} {l : List D} {i j : Nat} {π : List Nat}
theorem ej_lentTo (hρ : (ρ.map frz).set j (.im x) = ρ') (h : EvC K te ρ' z) (hk : z.kf = true) : EvCJ K te ρ z j x := fun M T0 H T σ X Q e a q => by
  obtain ⟨v, a1, a2⟩ := a
  have ef := (EnX.set (i := j) (d := x) (v := v) e.frz a2)
  rw [set_self a1, hρ] at ef
  refine h [] T T T σ [] Q ef fun w L H1 T1 s1 t1 e1 iw => ?_
  obtain ⟨L', r, o, f⟩ := e1.ex
  have e0 : L' = [] := by
    have : ∀ {ρ : Rho} {σ : L2.St} {L : Op}, (∀ s ∈ ρ, s = .no ∨ ∃ d, s = .im d) → EnR K H1 ρ σ L → L = [] := by
      intro ρ
      induction ρ with
      | nil => intro σ L _ h; cases h; rfl
      | cons s ρ ih =>
        intro σ L hs h
        rcases hs s List.mem_cons_self with rfl | ⟨d, rfl⟩
        · cases h with
          | no h => exact ih (fun y hy => hs y (List.mem_cons_of_mem _ hy)) h
        · cases h with
          | im _ h => exact ih (fun y hy => hs y (List.mem_cons_of_mem _ hy)) h
    refine this (fun s hs => ?_) r
    rw [← hρ] at hs
    rcases List.mem_or_eq_of_mem_set hs with hs | hs
    · obtain ⟨s0, _, rfl⟩ := List.mem_map.mp hs
      cases s0 with
      | no => exact .inl rfl
      | im d => exact .inr ⟨_, rfl⟩
      | ow l => exact .inr ⟨_, rfl⟩
      | cl d => exact .inr ⟨_, rfl⟩
    · exact .inr ⟨_, hs⟩
  subst e0
  exact q w L H T1 (Same.refl _) t1 (e.lentC t1 s1 (by simpa using o) fun y hy => f y (by simpa using hy)) (IsC.any z w L hk iw)
/-- PATH.append(x), x an open tree of a local -/
theorem wq_moveApp (hij : i ≠ j) (e : ρ[i]? = some (.cl d)) (ej : ρ[j]? = some (.cl x)) (hp : EvL K to ρ i π) (hd : D.at π d = some (.lst l)) (hz : l.length < 100000) (h : WsA K E tz ((ρ.set j .no).set i (.cl (D.put π d (.lst (l ++ [x]))))) P j x.er) :
    Ws K E (tSeq (tDrop (tBM K "list" rAppend to (tCons (tVar j) tNil))) tz) ρ P := fun M T0 H T σ Dn en k =>
  hp M T0 H T σ [] _ en fun u H1 T1 s1 t1 e1 ⟨v, n1, n2⟩ => by
    obtain ⟨v', u', Ls, L0, h1, ⟨a, vs, Lt, eu, eL, hl⟩, h3, h4, _⟩ := e1.spot e hd
    rw [n1] at h1
    cases h1
    have eu' := Nav.eq n2 h3
    subst eu'
    subst eu
    have hT : T1 a = some (.lst vs) := h4.here rfl (a, .lst vs) (by rw [eL]; exact List.mem_cons_self)
    obtain ⟨y, Lw, j1, j2, j3⟩ := e1.take ej
    obtain ⟨w, rfl, iw⟩ := j2.cl1
    have e' : (ρ.set j .no)[i]? = some (.cl d) := by rw [List.getElem?_set_ne (Ne.symm hij)]; exact e
    refine ⟨.inl ⟨rfl, vs, .inl (.inl hT)⟩, w, j1, ?_⟩
    obtain ⟨v2, u2, Ls2, L02, g1, ⟨a2, vs2, Lt2, eu2, eL2, hl2⟩, g3, g4, g5⟩ := j3.spot e' hd
    rw [n1] at g1
    cases g1
    have ea := Nav.eq h3 g3
    rw [eu2] at ea
    cases ea
    subst eu2
    subst eL2
    have hT2 : T1 a = some (.lst vs2) := g4.here rfl (a, .lst vs2) List.mem_cons_self
    have g6 := EnX.write (o' := .lst (vs2 ++ [w])) g4
    have g7 : EnX K M T0 H1 (upd T1 a (.lst (vs2 ++ [w]))) σ ((ρ.set j .no).set i .no) (((a, .lst (vs2 ++ [w])) :: (Lt2 ++ Lw)) ++ (L02 ++ [])) := by
      refine g6.perm (List.Perm.cons _ ?_)
      show List.Perm (Lt2 ++ (L02 ++ (Lw ++ []))) ((Lt2 ++ Lw) ++ (L02 ++ []))
      rw [List.append_nil, List.append_nil, List.append_assoc]
      exact List.Perm.append_left _ List.perm_append_comm
    have hw : Is K (upd T1 a (.lst (vs2 ++ [w]))) x.er w := by
      obtain ⟨L, r, o, f⟩ := g7.ex
      exact Is.er _ _ (IsC.is _ _ _ (iw.up o.same) fun y hy => o.at_ y (List.mem_append_left _ (List.mem_append_left _ (List.mem_cons_of_mem _ (List.mem_append_right _ hy)))))
    refine ⟨a, vs2, w, rfl, rfl, hT2, by rw [hl2.len]; exact Nat.lt_of_lt_of_le hz (by decide), h M T0 H1 _ σ Dn ?_ ⟨w, j1, hw⟩ (k.up s1)⟩
    exact g5 H1 _ [] (.lst (l ++ [x])) ((a, .lst (vs2 ++ [w])) :: (Lt2 ++ Lw)) (Same.refl _) g7 ⟨a, _, _, rfl, rfl, hl2.app (.one iw)⟩
/-- PATH.append(e), e may read x by the name j -/
theorem wj_appP (e : ρ[i]? = some (.cl d)) (hp : EvL K to ρ i π) (hd : D.at π d = some (.lst l)) (hv : EvCJ K te ρ z j x) (hz : l.length < 100000) (h : P.nx (ρ.set i (.cl (D.put π d (.lst (l ++ [z])))))) :
    WsA K E (tDrop (tBM K "list" rAppend to (tCons te tNil))) ρ P j x := fun M T0 H T σ Dn en al k =>
  hp M T0 H T σ [] _ en fun u H1 T1 s1 t1 e1 ⟨v, n1, n2⟩ => by
    obtain ⟨v', u', Ls, L0, h1, ⟨a, vs, Lt, eu, eL, hl⟩, h3, h4, _⟩ := e1.spot e hd
    rw [n1] at h1
    cases h1
    have eu' := Nav.eq n2 h3
    subst eu'
    subst eu
    have hT : T1 a = some (.lst vs) := h4.here rfl (a, .lst vs) (by rw [eL]; exact List.mem_cons_self)
    refine ⟨.inl ⟨rfl, vs, .inl (.inl hT)⟩, hv M T0 H1 T1 σ [] _ e1 (al.up t1) fun w Lw H2 T2 s2 t2 e2 iw => ?_⟩
    obtain ⟨v2, u2, Ls2, L02, g1, ⟨a2, vs2, Lt2, eu2, eL2, hl2⟩, g3, g4, g5⟩ := e2.spot e hd
    rw [n1] at g1
    cases g1
    have ea := Nav.eq (h3.up t2) g3
    rw [eu2] at ea
    cases ea
    subst eu2
    subst eL2
    have hT2 : T2 a = some (.lst vs2) := g4.here rfl (a, .lst vs2) List.mem_cons_self
    refine ⟨a, vs2, w, rfl, rfl, hT2, by rw [hl2.len]; exact Nat.lt_of_lt_of_le hz (by decide), k.nx _ σ H2 _ h (s1.trans s2) ?_⟩
    refine g5 H2 _ [] (.lst (l ++ [z])) ((a, .lst (vs2 ++ [w])) :: (Lt2 ++ Lw)) (Same.refl _) ?_ ⟨a, _, _, rfl, rfl, hl2.app (.one iw)⟩
    have g6 := EnX.write (o' := .lst (vs2 ++ [w])) g4
    refine g6.perm (List.Perm.cons _ ?_)
    show List.Perm (Lt2 ++ (L02 ++ (Lw ++ []))) ((Lt2 ++ Lw) ++ (L02 ++ []))
    rw [List.append_nil, List.append_nil, List.append_assoc]
    exact List.Perm.append_left _ List.perm_append_comm
end
end FS
set_option Elab.async false
set_option linter.all false
set_option maxRecDepth 100000
set_option maxHeartbeats 4000000
/-! Tuples of scalars are known wherever they stand. -/
namespace FS
open PySem PySem.Spec PyProof.Rows L2

/-- numbers, texts .. without the places of classes -/
def D.sv : D → Bool
  | .non => true
  | .bl _ => true
  | .int _ => true
  | .str _ => true
  | .ty _ => true
  | _ => false
theorem D.sv_sc {d : D} (h : d.sv = true) : d.sc = true := by cases d <;> first | rfl | cases h
/-- scalars, tuples of scalars -/
def D.lf : D → Bool
  | .tup l => l.all D.sv
  | d => d.sc
mutual
/-- what is known in it are leaves -/
def D.kq : D → Bool
  | .tup l => D.kqL l
  | .lst l => D.kqL l
  | .ins _ _ l => D.kqL l
  | .dic _ l => D.kqL l
  | .slf _ _ _ l => D.kqL l
  | .lsa _ l => D.kqL l
  | .kn d => d.lf
  | _ => true
def D.kqL : List D → Bool
  | [] => true
  | d :: l => D.kq d && D.kqL l
end
open Classical in
/-- H, and the tuples of scalars of T -/
noncomputable def aug (H T : Hp) : Hp := fun p => if H p = none ∧ ∃ o, T p = some o ∧ ¬ NS o then T p else H p
theorem aug_same {H T : Hp} : Same H (aug H T) := fun b x e => by
  unfold aug
  rw [if_neg (by rw [e]; exact fun h => nomatch h.1)]
  exact e
theorem aug_to {H T : Hp} (s : Same H T) : Same (aug H T) T := fun b x e => by
  unfold aug at e
  split at e
  · exact e
  · exact s _ _ e
theorem aug_get {H T : Hp} {p : Addr} {o : HO} (s : Same H T) (h : T p = some o) (hn : ¬ NS o) : aug H T p = some o := by
  unfold aug
  split
  · exact h
  · rename_i hh
    cases e : H p with
    | none => exact absurd ⟨e, o, h, hn⟩ hh
    | some y =>
      have := s _ _ e
      rw [h] at this
      exact this.symm
section
variable {K : PySem.W.Frag} {M X : Op} {T0 H H1 T : Hp} {σ : L2.St} {ρ ρ' : Rho} {te : TE} {z x : D} {j : Nat}
theorem EnX.aug (e : EnX K M T0 H T σ ρ X) : EnX K M T0 (FS.aug H T) T σ ρ X := by
  obtain ⟨L, r, o, f⟩ := e.ex
  refine ⟨⟨L, r.up aug_same, ⟨aug_to o.same, fun y hy => ?_, o.at_, o.nd, o.nt⟩, f⟩, e.t0⟩
  unfold FS.aug
  rw [if_neg]
  · exact o.free y hy
  · rintro ⟨_, w, h1, h2⟩
    rw [o.at_ y hy] at h1
    cases h1
    exact h2 (o.nt y hy)
theorem isL_noref {H : Hp} : ∀ {l : List D} {vs : List V}, l.all D.sv = true → IsL K H l vs → ∀ a, V.ref a ∉ vs
  | [], _, _, h, a => by rw [show _ = [] from h]; exact fun h => nomatch h
  | d :: l, _, hs, ⟨v, r, e, h1, h2⟩, a => by
    rw [List.all_cons, Bool.and_eq_true] at hs
    rw [e]
    intro ha
    rcases List.mem_cons.mp ha with hv | ha
    · cases d with
      | non => have h1 : v = .non := h1; rw [← hv] at h1; cases h1
      | bl b => have h1 : v = .bl b := h1; rw [← hv] at h1; cases h1
      | int b => have h1 : v = .int b := h1; rw [← hv] at h1; cases h1
      | str b => have h1 : v = .str b := h1; rw [← hv] at h1; cases h1
      | ty b => have h1 : v = .ty b := h1; rw [← hv] at h1; cases h1
      | _ => simp [D.sv] at hs
    · exact isL_noref hs.2 h2 a ha
theorem isL_sv {H H' : Hp} : ∀ {l : List D} {vs : List V}, l.all D.sv = true → IsL K H l vs → IsL K H' l vs
  | [], _, _, h => h
  | d :: l, _, hs, ⟨v, r, e, h1, h2⟩ => by
    rw [List.all_cons, Bool.and_eq_true] at hs
    exact ⟨v, r, e, h1.any (D.sv_sc hs.1), isL_sv hs.2 h2⟩
theorem Is.aug {d : D} {v : V} (hd : d.lf = true) (s1 : Same H1 T) (s : Same H T) (h : Is K H1 d v) : Is K (FS.aug H T) d v := by
  cases d with
  | tup l =>
    obtain ⟨a, vs, rfl, h1, h2⟩ := h
    refine ⟨a, vs, rfl, ?_, isL_sv hd h2⟩
    rcases h1 with (h1 | ⟨o, h1⟩) | h1
    · exact .inl (.inl (aug_get s (s1 _ _ h1) fun ⟨b, hb⟩ => isL_noref hd h2 b hb))
    · exact .inl (.inr ⟨o, aug_get s (s1 _ _ h1) fun h => h⟩)
    · exact .inr h1
  | _ => exact h.any hd
mutual
theorem IsC.aug (s1 : Same H1 T) (s : Same H T) : ∀ (d : D) (v : V) (L : Op), d.kq = true → IsC K H1 d v L → IsC K (FS.aug H T) d v L
  | .non, _, _, _, h => h
  | .bl _, _, _, _, h => h
  | .int _, _, _, _, h => h
  | .str _, _, _, _, h => h
  | .tup l, _, _, k, ⟨a, vs, Ls, h1, h2, h⟩ => ⟨a, vs, Ls, h1, h2, IsCL.aug s1 s l vs Ls k h⟩
  | .lst l, _, _, k, ⟨a, vs, Ls, h1, h2, h⟩ => ⟨a, vs, Ls, h1, h2, IsCL.aug s1 s l vs Ls k h⟩
  | .scr _, _, _, _, h => h
  | .ty _, _, _, _, h => h
  | .obj _, _, _, _, h => h
  | .exc _ _ _ _, _, _, _, h => h
  | .ins C ns l, _, _, k, ⟨a, dx, vs, Ls, h1, h2, h⟩ => ⟨a, dx, vs, Ls, h1, h2, IsCL.aug s1 s l vs Ls k h⟩
  | .dic ks l, _, _, k, ⟨a, vs, Ls, h1, h2, h⟩ => ⟨a, vs, Ls, h1, h2, IsCL.aug s1 s l vs Ls k h⟩
  | .slf a C ns l, _, _, k, ⟨h1, dx, vs, Ls, h2, h⟩ => ⟨h1, dx, vs, Ls, h2, IsCL.aug s1 s l vs Ls k h⟩
  | .lsa a l, _, _, k, ⟨h1, vs, Ls, h2, h⟩ => ⟨h1, vs, Ls, h2, IsCL.aug s1 s l vs Ls k h⟩
  | .kn d, _, _, k, ⟨h1, h2⟩ => ⟨Is.aug (d := d) k s1 s h1, h2⟩
theorem IsCL.aug (s1 : Same H1 T) (s : Same H T) : ∀ (l : List D) (vs : List V) (L : Op), D.kqL l = true → IsCL K H1 l vs L → IsCL K (FS.aug H T) l vs L
  | [], _, _, _, h => h
  | d :: l, _, _, k, ⟨v, r, L1, L2, h1, h2, h3, h4⟩ => by
    have k' : d.kq = true ∧ D.kqL l = true := by simpa [D.kqL] using k
    exact ⟨v, r, L1, L2, h1, h2, IsC.aug s1 s d v L1 k'.1 h3, IsCL.aug s1 s l r L2 k'.2 h4⟩
end
theorem ec_lentQ (hρ : ρ.map frz = ρ') (h : EvC K te ρ' z) (hk : z.kq = true) : EvC K te ρ z := fun M T0 H T σ X Q e q => by
  have ef := e.frz
  rw [hρ] at ef
  refine h [] T T T σ [] Q ef fun v L H1 T1 s1 t1 e1 iw => ?_
  obtain ⟨L', r, o, f⟩ := e1.ex
  rw [← hρ] at r
  have e0 := EnR.frz_nil r
  subst e0
  have en2 := e.lentC t1 s1 (by simpa using o) fun x hx => f x (by simpa using hx)
  exact q v L _ T1 aug_same t1 en2.aug (IsC.aug e1.same en2.same z v L hk iw)
theorem ed_lentQ (hρ : ρ.map frz = ρ') (h : EvD K te ρ' z) (hz : z.lf = true) : EvD K te ρ z := fun M T0 H T σ X Q e q => by
  have ef := e.frz
  rw [hρ] at ef
  refine h [] T T T σ [] Q ef fun v H1 T1 s1 t1 e1 i1 => ?_
  have en2 := e.lent t1
  exact q v _ T1 aug_same t1 en2.aug (Is.aug hz e1.same en2.same i1)
theorem ej_lentQ (hρ : (ρ.map frz).set j (.im x) = ρ') (h : EvC K te ρ' z) (hk : z.kq = true) : EvCJ K te ρ z j x := fun M T0 H T σ X Q e a q => by
  obtain ⟨v, a1, a2⟩ := a
  have ef := (EnX.set (i := j) (d := x) (v := v) e.frz a2)
  rw [set_self a1, hρ] at ef
  refine h [] T T T σ [] Q ef fun w L H1 T1 s1 t1 e1 iw => ?_
  obtain ⟨L', r, o, f⟩ := e1.ex
  have e0 : L' = [] := by
    have : ∀ {ρ : Rho} {σ : L2.St} {L : Op}, (∀ s ∈ ρ, s = .no ∨ ∃ d, s = .im d) → EnR K H1 ρ σ L → L = [] := by
      intro ρ
      induction ρ with
      | nil => intro σ L _ h; cases h; rfl
      | cons s ρ ih =>
        intro σ L hs h
        rcases hs s List.mem_cons_self with rfl | ⟨d, rfl⟩
        · cases h with
          | no h => exact ih (fun y hy => hs y (List.mem_cons_of_mem _ hy)) h
        · cases h with
          | im _ h => exact ih (fun y hy => hs y (List.mem_cons_of_mem _ hy)) h
    refine this (fun s hs => ?_) r
    rw [← hρ] at hs
    rcases List.mem_or_eq_of_mem_set hs with hs | hs
    · obtain ⟨s0, _, rfl⟩ := List.mem_map.mp hs
      cases s0 with
      | no => exact .inl rfl
      | im d => exact .inr ⟨_, rfl⟩
      | ow l => exact .inr ⟨_, rfl⟩
      | cl d => exact .inr ⟨_, rfl⟩
    · exact .inr ⟨_, hs⟩
  subst e0
  have en2 := e.lentC t1 s1 (by simpa using o) fun y hy => f y (by simpa using hy)
  exact q w L _ T1 aug_same t1 en2.aug (IsC.aug e1.same en2.same z w L hk iw)
end
end FS
set_option Elab.async false
set_option linter.all false
/-! What code tells, as plain functions: no model in sight. -/
namespace FS
open PySem

/-- plain things -/
inductive Dy where
  | non
  | bl (b : Bool)
  | int (i : Int)
  | str (s : Str)
  | tup (l : List Dy)
  | lst (l : List Dy)
  | ins (C : String) (l : List Dy)

/-- types whose things are plain -/
class Py (α : Type) where
  dy : α → Dy
  un : Dy → Option α
  un_dy : ∀ a, un (dy a) = some a
  dy_un : ∀ d a, un d = some a → d = dy a
open Py (dy un)
@[simp] theorem un_dy_ {α : Type} [Py α] (a : α) : un (dy a) = some a := Py.un_dy a
instance : Py Dy := ⟨id, some, fun _ => rfl, fun _ _ h => Option.some.inj h⟩
instance : Py Unit := ⟨fun _ => .non, fun d => match d with | .non => some () | _ => none, fun _ => rfl, fun d a h => by cases d <;> first | rfl | cases h⟩
instance : Py Bool := ⟨.bl, fun d => match d with | .bl b => some b | _ => none, fun _ => rfl, fun d a h => by cases d <;> first | (cases h; rfl) | cases h⟩
instance : Py Int := ⟨.int, fun d => match d with | .int b => some b | _ => none, fun _ => rfl, fun d a h => by cases d <;> first | (cases h; rfl) | cases h⟩
instance : Py Str := ⟨.str, fun d => match d with | .str b => some b | _ => none, fun _ => rfl, fun d a h => by cases d <;> first | (cases h; rfl) | cases h⟩
def unL {α : Type} [Py α] : List Dy → Option (List α)
  | [] => some []
  | d :: l => (un d).bind fun a => (unL l).map (a :: ·)
theorem unL_dy {α : Type} [Py α] : ∀ l : List α, unL (l.map dy) = some l
  | [] => rfl
  | a :: l => by simp [unL, unL_dy l]
theorem dy_unL {α : Type} [Py α] : ∀ (l : List Dy) (m : List α), unL l = some m → l = m.map dy
  | [], m, h => by cases h; rfl
  | d :: l, m, h => by
    obtain ⟨a, h1, h2⟩ := Option.bind_eq_some_iff.mp h
    obtain ⟨m', h3, rfl⟩ := Option.map_eq_some_iff.mp h2
    rw [List.map_cons, Py.dy_un d a h1, dy_unL l m' h3]
instance {α : Type} [Py α] : Py (List α) := ⟨fun l => .lst (l.map dy), fun d => match d with | .lst l => unL l | _ => none, fun l => unL_dy l, fun d a h => by cases d <;> first | (exact congrArg Dy.lst (dy_unL _ _ h)) | cases h⟩
/-- tuples of any length -/
structure Tu (α : Type) where
  l : List α
instance {α : Type} [Py α] : Py (Tu α) := ⟨fun l => .tup (l.l.map dy), fun d => match d with | .tup l => (unL l).map Tu.mk | _ => none, fun l => by show (unL (l.l.map dy)).map Tu.mk = _; rw [unL_dy]; rfl, fun d a h => by
  cases d <;> first | (obtain ⟨m, h1, rfl⟩ := Option.map_eq_some_iff.mp h; exact congrArg Dy.tup (dy_unL _ _ h1)) | cases h⟩
def un2 {α β : Type} [Py α] [Py β] : Dy → Option (α × β)
  | .tup [a, b] => (un a).bind fun x => (un b).map fun y => (x, y)
  | _ => none
instance {α β : Type} [Py α] [Py β] : Py (α × β) := ⟨fun p => .tup [dy p.1, dy p.2], un2, fun p => by simp [un2], fun d p h => by
  match d, h with
  | .tup [a, b], h =>
    obtain ⟨x, h1, h2⟩ := Option.bind_eq_some_iff.mp h
    obtain ⟨y, h3, rfl⟩ := Option.map_eq_some_iff.mp h2
    rw [Py.dy_un a x h1, Py.dy_un b y h3]⟩
/-- tuples of one, of three, of four -/
structure P1 (α : Type) where
  a : α
structure P3 (α β γ : Type) where
  a : α
  b : β
  c : γ
structure P4 (α β γ δ : Type) where
  a : α
  b : β
  c : γ
  d : δ
def unP1 {α : Type} [Py α] : Dy → Option (P1 α)
  | .tup [a] => (un a).map fun x => ⟨x⟩
  | _ => none
instance {α : Type} [Py α] : Py (P1 α) := ⟨fun p => .tup [dy p.a], unP1, fun p => by simp [unP1], fun d p h => by
  match d, h with
  | .tup [a], h =>
    obtain ⟨x, h1, rfl⟩ := Option.map_eq_some_iff.mp h
    rw [Py.dy_un a x h1]⟩
def unP3 {α β γ : Type} [Py α] [Py β] [Py γ] : Dy → Option (P3 α β γ)
  | .tup [a, b, c] => (un a).bind fun x => (un b).bind fun y => (un c).map fun z => ⟨x, y, z⟩
  | _ => none
instance {α β γ : Type} [Py α] [Py β] [Py γ] : Py (P3 α β γ) := ⟨fun p => .tup [dy p.a, dy p.b, dy p.c], unP3, fun p => by simp [unP3], fun d p h => by
  match d, h with
  | .tup [a, b, c], h =>
    obtain ⟨x, h1, h2⟩ := Option.bind_eq_some_iff.mp h
    obtain ⟨y, h3, h4⟩ := Option.bind_eq_some_iff.mp h2
    obtain ⟨z, h5, rfl⟩ := Option.map_eq_some_iff.mp h4
    rw [Py.dy_un a x h1, Py.dy_un b y h3, Py.dy_un c z h5]⟩
def unP4 {α β γ δ : Type} [Py α] [Py β] [Py γ] [Py δ] : Dy → Option (P4 α β γ δ)
  | .tup [a, b, c, d] => (un a).bind fun x => (un b).bind fun y => (un c).bind fun z => (un d).map fun w => ⟨x, y, z, w⟩
  | _ => none
instance {α β γ δ : Type} [Py α] [Py β] [Py γ] [Py δ] : Py (P4 α β γ δ) := ⟨fun p => .tup [dy p.a, dy p.b, dy p.c, dy p.d], unP4, fun p => by simp [unP4], fun d p h => by
  match d, h with
  | .tup [a, b, c, d], h =>
    obtain ⟨x, h1, h2⟩ := Option.bind_eq_some_iff.mp h
    obtain ⟨y, h3, h4⟩ := Option.bind_eq_some_iff.mp h2
    obtain ⟨z, h5, h6⟩ := Option.bind_eq_some_iff.mp h4
    obtain ⟨w, h7, rfl⟩ := Option.map_eq_some_iff.mp h6
    rw [Py.dy_un a x h1, Py.dy_un b y h3, Py.dy_un c z h5, Py.dy_un d w h7]⟩

/-- types of instances -/
class Ins (α : Type) extends Py α where
  nm : String
  l : α → List Dy
  ins : ∀ a, dy a = .ins nm (l a)
/-- cls -/
structure Cl (C : String) where
/-- the law's script -/
structure Scr where
  ns : List Int

/-! ### what comes of an expression, of a statement -/
/-- an error: its class, the values of its fields -/
abbrev Xn := String × List Dy
inductive Res (α : Type) where
  | ok (a : α)
  | ex (z : Xn)
  | no
namespace Res
variable {α β γ : Type}
def bind : Res α → (α → Res β) → Res β
  | ok a, f => f a
  | ex z, _ => ex z
  | no, _ => no
@[simp] theorem bind_ok {a : α} {f : α → Res β} : (ok a).bind f = f a := rfl
@[simp] theorem bind_ex {z : Xn} {f : α → Res β} : (ex z : Res α).bind f = ex z := rfl
@[simp] theorem bind_no {f : α → Res β} : (no : Res α).bind f = no := rfl
@[simp] theorem bind_assoc {r : Res α} {f : α → Res β} {g : β → Res γ} : (r.bind f).bind g = r.bind fun a => (f a).bind g := by cases r <;> rfl
end Res
def ofO {α : Type} : Option α → Res α
  | some a => .ok a
  | none => .no
@[simp] theorem ofO_some {α : Type} {a : α} : ofO (some a) = .ok a := rfl
/-- what never raises -/
def Res.calm {α : Type} : Res α → Res α
  | .ok a => .ok a
  | _ => .no
@[simp] theorem Res.calm_ok {α : Type} {a : α} : (Res.ok a).calm = .ok a := rfl
inductive Out (S L R : Type) where
  | nx (s : S)
  | rt (r : R)
  | bk (l : L)
  | ct (l : L)
  | ex (z : Xn)
  | no
section
variable {α S S' L R : Type}
def Res.to : Res α → (α → Out S L R) → Out S L R
  | .ok a, f => f a
  | .ex z, _ => .ex z
  | .no, _ => .no
@[simp] theorem Res.to_ok {a : α} {f : α → Out S L R} : (Res.ok a).to f = f a := rfl
@[simp] theorem Res.to_ex {z : Xn} {f : α → Out S L R} : (Res.ex z : Res α).to f = .ex z := rfl
@[simp] theorem Res.to_no {f : α → Out S L R} : (Res.no : Res α).to f = .no := rfl
@[simp] theorem Res.bind_to {β : Type} {r : Res α} {f : α → Res β} {g : β → Out S L R} : (r.bind f).to g = r.to fun a => (f a).to g := by cases r <;> rfl
def Out.seq : Out S L R → (S → Out S' L R) → Out S' L R
  | .nx s, k => k s
  | .rt r, _ => .rt r
  | .bk l, _ => .bk l
  | .ct l, _ => .ct l
  | .ex z, _ => .ex z
  | .no, _ => .no
@[simp] theorem Out.seq_nx {s : S} {k : S → Out S' L R} : (Out.nx s : Out S L R).seq k = k s := rfl
@[simp] theorem Out.seq_rt {r : R} {k : S → Out S' L R} : (Out.rt r : Out S L R).seq k = .rt r := rfl
@[simp] theorem Out.seq_bk {l : L} {k : S → Out S' L R} : (Out.bk l : Out S L R).seq k = .bk l := rfl
@[simp] theorem Out.seq_ct {l : L} {k : S → Out S' L R} : (Out.ct l : Out S L R).seq k = .ct l := rfl
@[simp] theorem Out.seq_ex {z : Xn} {k : S → Out S' L R} : (Out.ex z : Out S L R).seq k = .ex z := rfl
@[simp] theorem Out.seq_no {k : S → Out S' L R} : (Out.no : Out S L R).seq k = .no := rfl
@[simp] theorem Out.to_seq {r : Res α} {f : α → Out S L R} {k : S → Out S' L R} : (r.to f).seq k = r.to fun a => (f a).seq k := by cases r <;> rfl
/-- the value of a def; d: what it tells if it ends without a return -/
def Out.fin (d : Res R) : Out S L R → Res R
  | .nx _ => d
  | .rt r => .ok r
  | .ex z => .ex z
  | _ => .no
@[simp] theorem Out.fin_nx {d : Res R} {s : S} : (Out.nx s : Out S L R).fin d = d := rfl
@[simp] theorem Out.fin_rt {d : Res R} {r : R} : (Out.rt r : Out S L R).fin d = .ok r := rfl
@[simp] theorem Out.fin_ex {d : Res R} {z : Xn} : (Out.ex z : Out S L R).fin d = .ex z := rfl
@[simp] theorem Out.fin_no {d : Res R} : (Out.no : Out S L R).fin d = .no := rfl
@[simp] theorem Out.to_fin {d : Res R} {r : Res α} {f : α → Out S L R} : (r.to f).fin d = r.bind fun a => (f a).fin d := by cases r <;> rfl
def Out.up (o : Out Empty L R) : Out S L R := o.seq Empty.elim
@[simp] theorem Out.up_rt {r : R} : (Out.rt r : Out Empty L R).up = (.rt r : Out S L R) := rfl
@[simp] theorem Out.up_ex {z : Xn} : (Out.ex z : Out Empty L R).up = (.ex z : Out S L R) := rfl
@[simp] theorem Out.up_bk {l : L} : (Out.bk l : Out Empty L R).up = (.bk l : Out S L R) := rfl
@[simp] theorem Out.up_ct {l : L} : (Out.ct l : Out Empty L R).up = (.ct l : Out S L R) := rfl
@[simp] theorem Out.up_no : (Out.no : Out Empty L R).up = (.no : Out S L R) := rfl
@[simp] theorem Out.to_up {r : Res α} {f : α → Out Empty L R} : (r.to f).up = (r.to fun a => (f a).up : Out S L R) := by cases r <;> rfl
/-- the instance that an __init__ has made -/
def Out.made : Out S L R → Res S
  | .nx s => .ok s
  | .ex z => .ex z
  | _ => .no
@[simp] theorem Out.made_nx {s : S} : (Out.nx s : Out S L R).made = .ok s := rfl
@[simp] theorem Out.made_ex {z : Xn} : (Out.ex z : Out S L R).made = .ex z := rfl
@[simp] theorem Out.made_no : (Out.no : Out S L R).made = .no := rfl
@[simp] theorem Out.to_made {r : Res α} {f : α → Out S L R} : (r.to f).made = r.bind fun a => (f a).made := by cases r <;> rfl
def ifO (c : Res Bool) (a b : Out S L R) : Out S L R := c.to fun c => if c then a else b
@[simp] theorem ifO_ok {c : Bool} {a b : Out S L R} : ifO (.ok c) a b = if c then a else b := rfl
/-- for x in xs -/
def forO (f : α → S → Out S S R) : List α → S → Out S L R
  | [], s => .nx s
  | x :: xs, s => match f x s with
    | .nx s' => forO f xs s'
    | .ct s' => forO f xs s'
    | .bk s' => .nx s'
    | .rt r => .rt r
    | .ex z => .ex z
    | .no => .no
def whileO (c : S → Res Bool) (f : S → Out S S R) : Nat → S → Out S L R
  | 0, _ => .no
  | n + 1, s => ifO (c s).calm (match f s with
    | .nx s' => whileO c f n s'
    | .ct s' => whileO c f n s'
    | .bk s' => .nx s'
    | .rt r => .rt r
    | .ex z => .ex z
    | .no => .no) (.nx s)
end
/-- what raises no more -/
def Out.calm {S L R : Type} : Out S L R → Out S L R
  | .ex _ => .no
  | o => o
@[simp] theorem Out.calm_nx {S L R : Type} {s : S} : (Out.nx s : Out S L R).calm = .nx s := rfl
@[simp] theorem Out.calm_rt {S L R : Type} {s : R} : (Out.rt s : Out S L R).calm = .rt s := rfl
@[simp] theorem Out.calm_no {S L R : Type} : (Out.no : Out S L R).calm = .no := rfl
@[simp] theorem Out.calm_ex {S L R : Type} {z : Xn} : (Out.ex z : Out S L R).calm = .no := rfl
@[simp] theorem Out.to_calm {α S L R : Type} {r : Res α} {f : α → Out S L R} : (r.to f).calm = (r.calm).to fun a => (f a).calm := by cases r <;> rfl
/-- try: o except (all of errs) as z: h z -/
def tryO {S L R : Type} (errs : List String) (o : Out S L R) (h : Xn → Out S L R) : Out S L R := match o with
  | .ex z => if z.1 ∈ errs then (h z).calm else .no
  | o => o
@[simp] theorem tryO_nx {S L R : Type} {errs : List String} {s : S} {h : Xn → Out S L R} : tryO errs (.nx s) h = .nx s := rfl
@[simp] theorem tryO_rt {S L R : Type} {errs : List String} {r : R} {h : Xn → Out S L R} : tryO errs (.rt r) h = .rt r := rfl
@[simp] theorem tryO_no {S L R : Type} {errs : List String} {h : Xn → Out S L R} : tryO errs .no h = .no := rfl
@[simp] theorem tryO_ex {S L R : Type} {errs : List String} {z : Xn} {h : Xn → Out S L R} : tryO errs (.ex z) h = if z.1 ∈ errs then (h z).calm else .no := rfl
/-- is the error of this class -/
def isX (errs : List String) (C : String) (z : Xn) : Res Bool := if z.1 ∈ errs then .ok (z.1 == C) else .no
/-- the error's field: cs tells for each class that has it its place and how many there are -/
def xf (cs : List (String × Nat × Nat)) (z : Xn) : Res Dy := match cs.lookup z.1 with
  | some (j, n) => if z.2.length = n then ofO z.2[j]? else .no
  | none => .no
/-- states of more than one name -/
abbrev up0 {β : Type} (f : β) : Unit → β := fun _ => f
abbrev up1 {α β : Type} (f : α → β) : α → β := f
abbrev up2 {α1 α2 β : Type} (f : α1 → α2 → β) : α1 × α2 → β := fun s => f s.1 s.2
abbrev up3 {α1 α2 α3 β : Type} (f : α1 → α2 → α3 → β) : α1 × α2 × α3 → β := fun s => f s.1 s.2.1 s.2.2
abbrev up4 {α1 α2 α3 α4 β : Type} (f : α1 → α2 → α3 → α4 → β) : α1 × α2 × α3 × α4 → β := fun s => f s.1 s.2.1 s.2.2.1 s.2.2.2
abbrev up5 {α1 α2 α3 α4 α5 β : Type} (f : α1 → α2 → α3 → α4 → α5 → β) : α1 × α2 × α3 × α4 × α5 → β := fun s => f s.1 s.2.1 s.2.2.1 s.2.2.2.1 s.2.2.2.2
abbrev up6 {α1 α2 α3 α4 α5 α6 β : Type} (f : α1 → α2 → α3 → α4 → α5 → α6 → β) : α1 × α2 × α3 × α4 × α5 × α6 → β := fun s => f s.1 s.2.1 s.2.2.1 s.2.2.2.1 s.2.2.2.2.1 s.2.2.2.2.2
abbrev up7 {α1 α2 α3 α4 α5 α6 α7 β : Type} (f : α1 → α2 → α3 → α4 → α5 → α6 → α7 → β) : α1 × α2 × α3 × α4 × α5 × α6 × α7 → β := fun s => f s.1 s.2.1 s.2.2.1 s.2.2.2.1 s.2.2.2.2.1 s.2.2.2.2.2.1 s.2.2.2.2.2.2
abbrev up8 {α1 α2 α3 α4 α5 α6 α7 α8 β : Type} (f : α1 → α2 → α3 → α4 → α5 → α6 → α7 → α8 → β) : α1 × α2 × α3 × α4 × α5 × α6 × α7 × α8 → β := fun s => f s.1 s.2.1 s.2.2.1 s.2.2.2.1 s.2.2.2.2.1 s.2.2.2.2.2.1 s.2.2.2.2.2.2.1 s.2.2.2.2.2.2.2

/-! ### operations -/
section
variable {α β : Type}
def idx (n : Nat) (i : Int) : Option Nat := if 0 ≤ i then (if i < n then some i.toNat else none) else if -(n : Int) ≤ i then some (i + n).toNat else none
def at_ (l : List α) (i : Int) : Res α := ofO ((idx l.length i).bind fun j => l[j]?)
def setAt (l : List α) (i : Int) (x : α) : Res (List α) := ofO ((idx l.length i).map fun j => l.set j x)
def popAt (l : List α) (i : Int) : Res (List α) := if 0 ≤ i ∧ i < l.length ∧ i < 2 ^ 62 then .ok (l.eraseIdx i.toNat) else .no
def popEnd (l : List α) : Res (List α) := if l.length = 0 then .no else .ok l.dropLast
def app (l : List α) (x : α) : Res (List α) := if l.length < 100000 then .ok (l ++ [x]) else .no
def cat (l m : List α) : Res (List α) := if l.length + m.length ≤ 100000 then .ok (l ++ m) else .no
def modAt (l : List α) (i : Int) (f : α → Res α) : Res (List α) := (at_ l i).bind fun x => (f x).bind fun y => setAt l i y
def mul (a b : Int) : Res Int := if (a.natAbs < 2 ^ 64 ∨ b.natAbs < 2 ^ 64) ∨ a.natAbs.log2 + b.natAbs.log2 < 1000000 then .ok (a * b) else .no
def fdiv (a b : Int) : Res Int := if 0 < b ∧ b.natAbs.log2 < 9000 then .ok (a / b) else .no
def fmod (a b : Int) : Res Int := if 0 < b then .ok (a % b) else .no
def pow_ (a b : Int) : Res Int := if 0 ≤ b ∧ b ≤ 1000000 ∧ a.natAbs < 2 ^ 64 then .ok (a ^ b.toNat) else .no
def lcm_ (a b : Int) : Res Int := if 0 < a ∧ 0 < b ∧ a < 2 ^ 13499 ∧ b < 2 ^ 13499 then .ok ((Nat.lcm a.natAbs b.natAbs : Nat) : Int) else .no
def gcd_ (a b : Int) : Int := ((Nat.gcd a.natAbs b.natAbs : Nat) : Int)
def iabs (a : Int) : Int := (a.natAbs : Int)
def b2i (b : Bool) : Int := if b then 1 else 0
def len (l : List α) : Int := l.length
def rep (l : List α) (k : Int) : Res (List α) := if (-(2 ^ 63) ≤ k ∧ k < 2 ^ 63) ∧ l.length * k.toNat ≤ 100000 then .ok (List.replicate k.toNat l).flatten else .no
def range1 (n : Int) : Res (List Int) := if -1000000 ≤ n ∧ n ≤ 1000000 then .ok ((List.range n.toNat).map fun k : Nat => (k : Int)) else .no
def range2 (a b : Int) : Res (List Int) := if -1000000 ≤ a ∧ a ≤ 1000000 ∧ -1000000 ≤ b ∧ b ≤ 1000000 then .ok ((List.range (b - a).toNat).map fun k : Nat => a + (k : Int)) else .no
/-- list(range(n)) -/
def listRange (n : Int) : Res (List Int) := if 0 ≤ n ∧ n ≤ 100000 then .ok ((List.range n.toNat).map fun k : Nat => (k : Int)) else .no
def mapP (l : List α) (f : α → β) : Res (List β) := if l.length ≤ 100000 then .ok (l.map f) else .no
def mapR (f : α → Res β) : List α → Res (List β)
  | [] => .ok []
  | x :: l => (f x).calm.bind fun y => (mapR f l).bind fun m => .ok (y :: m)
def mapL (l : List α) (f : α → Res β) : Res (List β) := if l.length ≤ 100000 then mapR f l else .no
def mapIfR (c : α → Res Bool) (f : α → Res β) : List α → Res (List β)
  | [] => .ok []
  | x :: l => (c x).calm.bind fun b => if b then (f x).calm.bind fun y => (mapIfR c f l).bind fun m => .ok (y :: m) else mapIfR c f l
def mapIf (l : List α) (c : α → Res Bool) (f : α → Res β) : Res (List β) := if l.length ≤ 100000 then mapIfR c f l else .no
def andR (a b : Res Bool) : Res Bool := a.bind fun x => if x then b else .ok false
def orR (a b : Res Bool) : Res Bool := a.bind fun x => if x then .ok true else b
def iteR (c : Res Bool) (a b : Res α) : Res α := c.bind fun x => if x then a else b
def minL : List Int → Res Int
  | [] => .no
  | x :: l => .ok (l.foldl min x)
def maxL : List Int → Res Int
  | [] => .no
  | x :: l => .ok (l.foldl max x)
def sortI (l : List Int) : List Int := l.mergeSort fun a b => decide (a ≤ b)
/-- the place of the first x -/
def indexL [DecidableEq α] (l : List α) (x : α) : Res Int := match l.findIdx? (fun y => decide (y = x)) with
  | some j => .ok j
  | none => .no
def slFrom (l : List α) (k : Int) : Res (List α) := if 0 ≤ k then .ok (l.drop k.toNat) else .no
def slTo (l : List α) (k : Int) : Res (List α) := if 0 ≤ k then .ok (l.take k.toNat) else .no
def catS (a b : Str) : Res Str := if a.length + b.length ≤ 10000000 then .ok (a ++ b) else .no
def isInB (x : Int) (l : List Int) : Bool := decide (x ∈ l)
/-- a thing of the type α, or it is none -/
def cast (α : Type) [Py α] (d : Dy) : Res α := ofO (un d)
@[simp] theorem cast_dy [Py α] {a : α} : cast α (dy a) = .ok a := by simp [cast]
/-- none but numbers, texts, truth values, None -/
def Dy.sc : Dy → Bool
  | .tup _ => false
  | .lst _ => false
  | .ins _ _ => false
  | _ => true
/-- scalars, tuples of scalars -/
def Dy.lf : Dy → Bool
  | .tup l => l.all Dy.sc
  | d => d.sc
/-- .. is handed on -/
def scG [Py α] : Res α → Res α
  | .ok a => if (dy a).lf then .ok a else .no
  | .ex z => if z.2.all Dy.sc then .ex z else .no
  | .no => .no
def exG : Res α → Res α
  | .ok a => .ok a
  | .ex z => if z.2.all Dy.sc then .ex z else .no
  | .no => .no
@[simp] theorem exG_ok {a : α} : exG (.ok a) = .ok a := rfl
@[simp] theorem scG_ok [Py α] {a : α} : scG (.ok a) = if (dy a).lf then .ok a else .no := rfl
end
@[simp] theorem lf_int {i : Int} : (dy i).lf = true := rfl
@[simp] theorem lf_bool {i : Bool} : (dy i).lf = true := rfl
@[simp] theorem lf_str {i : Str} : (dy i).lf = true := rfl
@[simp] theorem lf_unit {i : Unit} : (dy i).lf = true := rfl
@[simp] theorem lf_pair {a b : Int} : (dy (a, b)).lf = true := rfl
@[simp] theorem sc_int {i : Int} : (dy i).sc = true := rfl
@[simp] theorem sc_bool {i : Bool} : (dy i).sc = true := rfl
@[simp] theorem sc_str {i : Str} : (dy i).sc = true := rfl
@[simp] theorem sc_unit {i : Unit} : (dy i).sc = true := rfl

/-! == of plain things -/
mutual
def Dy.eqv : Dy → Dy → Bool
  | .non, .non => true
  | .bl a, .bl b => a == b
  | .bl a, .int j => (if a then 1 else 0) == j
  | .int i, .bl b => i == (if b then 1 else 0)
  | .int i, .int j => i == j
  | .str x, .str y => x == y
  | .lst l, .lst m => Dy.eqvL l m
  | .tup l, .tup m => Dy.eqvL l m
  | _, _ => false
def Dy.eqvL : List Dy → List Dy → Bool
  | [], [] => true
  | x :: l, y :: m => Dy.eqv x y && Dy.eqvL l m
  | _, _ => false
end
mutual
/-- .. at most n deep, its texts of whole signs -/
def Dy.flat : Nat → Dy → Bool
  | _, .non => true
  | _, .bl _ => true
  | _, .int _ => true
  | _, .str x => x.cps.all (· < 0x110000)
  | n + 1, .tup l => Dy.flatL n l
  | n + 1, .lst l => Dy.flatL n l
  | _, _ => false
def Dy.flatL : Nat → List Dy → Bool
  | _, [] => true
  | n, d :: l => Dy.flat n d && Dy.flatL n l
end
/-- == of two things of one type -/
class PyEq (α : Type) extends Py α where
  dec : DecidableEq α
  n : Nat
  flat : ∀ a : α, (dy a).flat n = true
  eqv : ∀ a b : α, (dy a).eqv (dy b) = decide (a = b)
instance {α : Type} [PyEq α] : DecidableEq α := PyEq.dec
instance : PyEq Int where
  dec := inferInstance
  n := 0
  flat _ := rfl
  eqv a b := by show (a == b) = _; exact Bool.beq_eq_decide_eq a b
instance : PyEq Bool where
  dec := inferInstance
  n := 0
  flat _ := rfl
  eqv a b := by cases a <;> cases b <;> rfl
instance : PyEq Unit where
  dec := inferInstance
  n := 0
  flat _ := rfl
  eqv _ _ := rfl
theorem flatL_all {n : Nat} : ∀ {l : List Dy}, (∀ d ∈ l, d.flat n = true) → Dy.flatL n l = true
  | [], _ => by cases n <;> rfl
  | d :: l, h => by
    have e : Dy.flatL n (d :: l) = (Dy.flat n d && Dy.flatL n l) := by cases n <;> rfl
    rw [e, h d List.mem_cons_self, flatL_all fun x hx => h x (List.mem_cons_of_mem _ hx)] <;> rfl
mutual
theorem flat_up : ∀ {n m : Nat} (d : Dy), n ≤ m → d.flat n = true → d.flat m = true
  | n, m, .non, _, _ => by cases m <;> rfl
  | n, m, .bl _, _, _ => by cases m <;> rfl
  | n, m, .int _, _, _ => by cases m <;> rfl
  | n, m, .str x, _, h => by cases n <;> cases m <;> exact h
  | 0, m, .tup l, _, h => by cases h
  | 0, m, .lst l, _, h => by cases h
  | n + 1, m + 1, .tup l, hm, h => flatL_up l (Nat.le_of_succ_le_succ hm) (show Dy.flatL n l = true from h)
  | n + 1, m + 1, .lst l, hm, h => flatL_up l (Nat.le_of_succ_le_succ hm) (show Dy.flatL n l = true from h)
  | n, m, .ins _ _, _, h => by cases n <;> cases h
theorem flatL_up : ∀ {n m : Nat} (l : List Dy), n ≤ m → Dy.flatL n l = true → Dy.flatL m l = true
  | n, m, [], _, _ => by cases m <;> rfl
  | n, m, d :: l, hm, h => by
    have e : ∀ k, Dy.flatL k (d :: l) = (Dy.flat k d && Dy.flatL k l) := fun k => by cases k <;> rfl
    rw [e, Bool.and_eq_true] at h ⊢
    exact ⟨flat_up d hm h.1, flatL_up l hm h.2⟩
end
theorem eqvL_map {α : Type} [PyEq α] : ∀ (l m : List α), Dy.eqvL (l.map dy) (m.map dy) = decide (l = m)
  | [], [] => rfl
  | [], _ :: _ => rfl
  | _ :: _, [] => rfl
  | a :: l, b :: m => by
    show ((dy a).eqv (dy b) && Dy.eqvL (l.map dy) (m.map dy)) = _
    rw [PyEq.eqv, eqvL_map l m]
    by_cases h : a = b <;> by_cases h2 : l = m <;> simp [h, h2]
instance {α : Type} [PyEq α] : PyEq (List α) where
  dec := inferInstance
  n := PyEq.n α + 1
  flat l := by
    show Dy.flatL (PyEq.n α) (l.map dy) = true
    refine flatL_all fun d hd => ?_
    obtain ⟨a, _, rfl⟩ := List.mem_map.mp hd
    exact PyEq.flat a
  eqv a b := eqvL_map a b
instance {α β : Type} [PyEq α] [PyEq β] : PyEq (α × β) where
  dec := inferInstance
  n := PyEq.n α + PyEq.n β + 1
  flat p := by
    show Dy.flatL (PyEq.n α + PyEq.n β) [dy p.1, dy p.2] = true
    refine flatL_all fun d hd => ?_
    rcases List.mem_cons.mp hd with rfl | hd
    · exact flat_up _ (by omega) (PyEq.flat p.1)
    · rw [List.mem_singleton.mp hd]
      exact flat_up _ (by omega) (PyEq.flat p.2)
  eqv a b := by
    show ((dy a.1).eqv (dy b.1) && ((dy a.2).eqv (dy b.2) && true)) = _
    rw [PyEq.eqv, PyEq.eqv]
    obtain ⟨a1, a2⟩ := a
    obtain ⟨b1, b2⟩ := b
    by_cases h : a1 = b1 <;> by_cases h2 : a2 = b2 <;> simp [h, h2]
def eq_ {α : Type} [PyEq α] (a b : α) : Bool := decide (a = b)
/-- == of plain things -/
def eqD (a b : Dy) : Res Bool := if a.flat 30 && b.flat 30 then .ok (a.eqv b) else .no
def isNone : Dy → Bool
  | .non => true
  | _ => false
/-- the built-in class -/
def Dy.cls : Dy → String
  | .non => "NoneType"
  | .bl _ => "bool"
  | .int _ => "int"
  | .str _ => "str"
  | .tup _ => "tuple"
  | .lst _ => "list"
  | .ins C _ => C
def isInt : Dy → Bool
  | .int _ => true
  | .bl _ => true
  | _ => false
def isBool : Dy → Bool
  | .bl _ => true
  | _ => false
def isStr : Dy → Bool
  | .str _ => true
  | _ => false
def isTup : Dy → Bool
  | .tup _ => true
  | _ => false
def isLst : Dy → Bool
  | .lst _ => true
  | _ => false
/-- .. asked of what is no instance -/
def isI (t : Dy → Bool) (d : Dy) : Res Bool := match d with
  | .ins _ _ => .no
  | d => .ok (t d)
def isIns (C : String) : Dy → Bool
  | .ins D _ => D == C
  | _ => false
/-- isinstance(d, C), C an own class -/
def isC (C : String) (d : Dy) : Res Bool := match d with
  | .ins D _ => if D = C then .ok true else .no
  | _ => .ok false
def lenD : Dy → Res Int
  | .lst l => .ok l.length
  | .tup l => .ok l.length
  | .str s => if s.length ≤ 10000000 then .ok s.length else .no
  | _ => .no
def atD : Dy → Int → Res Dy
  | .lst l, i => at_ l i
  | .tup l, i => at_ l i
  | _, _ => .no
def itD : Dy → Res (List Dy)
  | .lst l => .ok l
  | _ => .no
/-! labels by their first place -/
def firsts (row : List Int) : List Int := row.foldl (fun s x => if x ∈ s then s else s ++ [x]) []
def numbI (row : List Int) : List Int := row.map fun x => (((firsts row).findIdx (· == x) : Nat) : Int)
def m_numbered (row : List Int) : Res (List Int) := if row.length ≤ 1000 then .ok (numbI row) else .no
theorem firsts_fold : ∀ (row : List Int) (s : List Int), ((∀ x ∈ s, x ∈ row.foldl (fun s x => if x ∈ s then s else s ++ [x]) s) ∧ ∀ x ∈ row, x ∈ row.foldl (fun s x => if x ∈ s then s else s ++ [x]) s) ∧ (row.foldl (fun s x => if x ∈ s then s else s ++ [x]) s).length ≤ s.length + row.length
  | [], s => ⟨⟨fun x h => h, fun x h => by simp at h⟩, Nat.le_refl _⟩
  | y :: row, s => by
    rw [List.foldl_cons]
    by_cases hy : y ∈ s
    · rw [if_pos hy]
      obtain ⟨⟨a, b⟩, c⟩ := firsts_fold row s
      refine ⟨⟨a, fun x hx => ?_⟩, by rw [List.length_cons]; omega⟩
      rcases List.mem_cons.mp hx with rfl | hx
      · exact a _ hy
      · exact b x hx
    · rw [if_neg hy]
      obtain ⟨⟨a, b⟩, c⟩ := firsts_fold row (s ++ [y])
      refine ⟨⟨fun x hx => a x (List.mem_append_left _ hx), fun x hx => ?_⟩, by rw [List.length_append, List.length_singleton] at c; rw [List.length_cons]; omega⟩
      rcases List.mem_cons.mp hx with rfl | hx
      · exact a _ (List.mem_append_right _ List.mem_cons_self)
      · exact b x hx
theorem mem_firsts {row : List Int} {x : Int} (h : x ∈ row) : x ∈ firsts row := (firsts_fold row []).1.2 x h
theorem firsts_len (row : List Int) : (firsts row).length ≤ row.length := by
  have := (firsts_fold row []).2
  simpa [firsts] using this
end FS
set_option Elab.async false
set_option linter.all false
set_option maxRecDepth 100000
set_option maxHeartbeats 4000000
set_option exponentiation.threshold 20000
/-! From plain functions to the code: rules. -/
namespace FS
open PySem PySem.Spec PyProof.Rows L2
open Py (dy un)

/-- where the own classes stand, the names of their fields -/
class Cm where
  at_ : String → Addr
  fs : String → List Str
mutual
def enD [Cm] : Dy → D
  | .non => .non
  | .bl b => .bl b
  | .int i => .int i
  | .str s => .str s
  | .tup l => .tup (enL l)
  | .lst l => .lst (enL l)
  | .ins C l => .ins (Cm.at_ C) (Cm.fs C) (enL l)
def enL [Cm] : List Dy → List D
  | [] => []
  | d :: l => enD d :: enL l
end
theorem enL_map [Cm] : ∀ l : List Dy, enL l = l.map enD
  | [] => rfl
  | d :: l => by rw [enL, enL_map l]; rfl
mutual
theorem er_en [Cm] : ∀ d : Dy, (enD d).er = enD d
  | .non => rfl
  | .bl _ => rfl
  | .int _ => rfl
  | .str _ => rfl
  | .tup l => by show D.tup (D.erL (enL l)) = _; rw [erL_en l]; rfl
  | .lst l => by show D.lst (D.erL (enL l)) = _; rw [erL_en l]; rfl
  | .ins C l => by show D.ins _ _ (D.erL (enL l)) = _; rw [erL_en l]; rfl
theorem erL_en [Cm] : ∀ l : List Dy, D.erL (enL l) = enL l
  | [] => rfl
  | d :: l => by rw [enL, D.erL, er_en d, erL_en l]
end
mutual
theorem kf_en [Cm] : ∀ d : Dy, (enD d).kf = true
  | .non => rfl
  | .bl _ => rfl
  | .int _ => rfl
  | .str _ => rfl
  | .tup l => kfL_en l
  | .lst l => kfL_en l
  | .ins C l => kfL_en l
theorem kfL_en [Cm] : ∀ l : List Dy, D.kfL (enL l) = true
  | [] => rfl
  | d :: l => by rw [enL, D.kfL, kf_en d, kfL_en l] <;> rfl
end
theorem sc_en [Cm] {d : Dy} (h : d.sc = true) : (enD d).sc = true := by
  cases d <;> first | rfl | cases h
mutual
/-- .. in an open tree -/
def eoD [Cm] : Dy → D
  | .non => .non
  | .bl b => .bl b
  | .int i => .int i
  | .str s => .str s
  | .tup l => if l.all Dy.sc then .kn (.tup (enL l)) else .tup (eoL l)
  | .lst l => .lst (eoL l)
  | .ins C l => .ins (Cm.at_ C) (Cm.fs C) (eoL l)
def eoL [Cm] : List Dy → List D
  | [] => []
  | d :: l => eoD d :: eoL l
end
theorem eoL_map [Cm] : ∀ l : List Dy, eoL l = l.map eoD
  | [] => rfl
  | d :: l => by rw [eoL, eoL_map l]; rfl
mutual
theorem er_eo [Cm] : ∀ d : Dy, (eoD d).er = enD d
  | .non => rfl
  | .bl _ => rfl
  | .int _ => rfl
  | .str _ => rfl
  | .tup l => by
    rw [eoD]
    split
    · rfl
    · show D.tup (D.erL (eoL l)) = _; rw [erL_eo l]; rfl
  | .lst l => by show D.lst (D.erL (eoL l)) = _; rw [erL_eo l]; rfl
  | .ins C l => by show D.ins _ _ (D.erL (eoL l)) = _; rw [erL_eo l]; rfl
theorem erL_eo [Cm] : ∀ l : List Dy, D.erL (eoL l) = enL l
  | [] => rfl
  | d :: l => by rw [eoL, D.erL, er_eo d, erL_eo l]; rfl
end
theorem sv_en [Cm] {d : Dy} (h : d.sc = true) : (enD d).sv = true := by
  cases d <;> first | rfl | cases h
theorem svL_en [Cm] : ∀ {l : List Dy}, l.all Dy.sc = true → (enL l).all D.sv = true
  | [], _ => rfl
  | d :: l, h => by
    rw [List.all_cons, Bool.and_eq_true] at h
    rw [enL, List.all_cons, sv_en h.1, svL_en h.2] <;> rfl
theorem lf_en [Cm] {d : Dy} (h : d.lf = true) : (enD d).lf = true := by
  cases d with
  | tup l => exact svL_en h
  | lst l => cases h
  | ins C l => cases h
  | _ => rfl
mutual
theorem kq_eo [Cm] : ∀ d : Dy, (eoD d).kq = true
  | .non => rfl
  | .bl _ => rfl
  | .int _ => rfl
  | .str _ => rfl
  | .tup l => by
    rw [eoD]
    split
    · rename_i h
      exact svL_en h
    · exact kqL_eo l
  | .lst l => kqL_eo l
  | .ins C l => kqL_eo l
theorem kqL_eo [Cm] : ∀ l : List Dy, D.kqL (eoL l) = true
  | [] => rfl
  | d :: l => by rw [eoL, D.kqL, kq_eo d, kqL_eo l] <;> rfl
end
theorem eo_sc [Cm] {d : Dy} (h : d.sc = true) : eoD d = enD d := by
  cases d <;> first | rfl | cases h
/-- things that a slot may hold -/
class Enc (α : Type) where
  en : α → D
open Enc (en)
instance [Cm] {α : Type} [Py α] : Enc α := ⟨fun a => enD (dy a)⟩
instance : Enc Scr := ⟨fun s => .scr s.ns⟩
section
variable [Cm] {α : Type} [Py α]
theorem en_lst {l : List α} : (en l : D) = .lst (l.map en) := by
  show D.lst (enL (l.map dy)) = _
  rw [enL_map, List.map_map]
  rfl
theorem en_tu {l : Tu α} : (en l : D) = .tup (l.l.map en) := by
  show D.tup (enL (l.l.map dy)) = _
  rw [enL_map, List.map_map]
  rfl
def eo (a : α) : D := eoD (dy a)
theorem eo_lis {l : List α} : (eo l : D) = .lst (l.map eo) := by
  show D.lst (eoL (l.map dy)) = _
  rw [eoL_map, List.map_map]
  rfl
theorem er_o {a : α} : (eo a : D).er = en a := er_eo _
theorem kq_e {a : α} : (eo a : D).kq = true := kq_eo _
theorem erL_oM (l : List α) : D.erL (l.map eo) = l.map en := by
  have h := erL_eo (l.map dy)
  rw [eoL_map, enL_map, List.map_map, List.map_map] at h
  exact h
theorem er_e {a : α} : (en a : D).er = en a := er_en _
theorem kf_e {a : α} : (en a : D).kf = true := kf_en _
end
/-- types of scalars -/
class Sc (α : Type) extends Py α where
  sc : ∀ a : α, (dy a).sc = true
instance : Sc Int := ⟨fun _ => rfl⟩
instance : Sc Bool := ⟨fun _ => rfl⟩
instance : Sc Str := ⟨fun _ => rfl⟩
instance : Sc Unit := ⟨fun _ => rfl⟩
/-- types of scalars and of tuples of scalars -/
class Lf (α : Type) extends Py α where
  lf : ∀ a : α, (dy a).lf = true
instance {α : Type} [Sc α] : Lf α := ⟨fun a => by
  have h := Sc.sc a
  cases e : dy a with
  | tup l => rw [e] at h; cases h
  | lst l => rw [e] at h; cases h
  | ins C l => rw [e] at h; cases h
  | _ => rfl⟩
theorem sc_and {a b : Bool} (h : a = true) (h2 : b = true) : (a && b) = true := by rw [h, h2]; rfl
instance {α β : Type} [Sc α] [Sc β] : Lf (α × β) := ⟨fun p => by exact sc_and (Sc.sc p.1) (sc_and (Sc.sc p.2) rfl)⟩
instance {α : Type} [Sc α] : Lf (P1 α) := ⟨fun p => by exact sc_and (Sc.sc p.a) rfl⟩
instance {α β γ : Type} [Sc α] [Sc β] [Sc γ] : Lf (P3 α β γ) := ⟨fun p => by exact sc_and (Sc.sc p.a) (sc_and (Sc.sc p.b) (sc_and (Sc.sc p.c) rfl))⟩
instance {α β γ δ : Type} [Sc α] [Sc β] [Sc γ] [Sc δ] : Lf (P4 α β γ δ) := ⟨fun p => by exact sc_and (Sc.sc p.a) (sc_and (Sc.sc p.b) (sc_and (Sc.sc p.c) (sc_and (Sc.sc p.d) rfl)))⟩
instance {α : Type} [Sc α] : Lf (Tu α) := ⟨fun p => by
  show (p.l.map dy).all Dy.sc = true
  rw [List.all_map]
  exact List.all_eq_true.mpr fun a _ => Sc.sc a⟩
/-- a leaf in an open tree -/
theorem isC_lf [Cm] {K : PySem.W.Frag} {H : Hp} {d : Dy} {v : V} (hd : d.lf = true) (h : Is K H (enD d) v) : IsC K H (eoD d) v [] := by
  cases d with
  | tup l =>
    have hd : l.all Dy.sc = true := hd
    rw [eoD, if_pos hd]
    exact ⟨h, rfl⟩
  | lst l => cases hd
  | ins C l => cases hd
  | non => exact ⟨h, rfl⟩
  | bl b => exact ⟨h, rfl⟩
  | int i => exact ⟨h, rfl⟩
  | str s => exact ⟨h, rfl⟩
theorem isCL_lf [Cm] {K : PySem.W.Frag} {H : Hp} {α : Type} [Lf α] : ∀ {l : List α} {vs : List V}, IsL K H (l.map en) vs → IsCL K H (l.map eo) vs []
  | [], _, h => ⟨h, rfl⟩
  | a :: l, _, ⟨v, r, e, h1, h2⟩ => ⟨v, r, [], [], e, rfl, isC_lf (Lf.lf a) h1, isCL_lf h2⟩
def enX [Cm] (z : Xn) : Exn := (.ref (Cm.at_ z.1), (Cm.fs z.1).reverse, (z.2.map enD).reverse)

/-! ### what the code of an expression, of a test, of arguments, does -/
section
variable [Cm] (K : PySem.W.Frag) (W : L2.WX)
def EvR {α : Type} [Enc α] (te : TE) (ρ : Rho) : Res α → Prop
  | .ok a => EvD K te ρ (en a)
  | .ex z => EvZ K W te ρ (enX z)
  | .no => True
/-- a new list of known things -/
def EoR {α : Type} [Enc α] (te : TE) (ρ : Rho) : Res (List α) → Prop
  | .ok l => EvO K te ρ (l.map en)
  | .ex z => EvZ K W te ρ (enX z)
  | .no => True
/-- new through and through -/
def EcR {α : Type} [Py α] (te : TE) (ρ : Rho) : Res α → Prop
  | .ok a => EvC K te ρ (eo a)
  | .ex z => EvZ K W te ρ (enX z)
  | .no => True
def EvZT (tt : TT) (ρ : Rho) (z : Exn) : Prop := ∀ (M : Op) (T0 H T : Hp) (σ : L2.St) (X : Op) (Q : Bool → Hp → Prop), EnX K M T0 H T σ ρ X → (∀ od H' T', Same H H' → Same T T' → EnX K M T0 H' T' σ ρ X → IsX K T H' od z.2.1 z.2.2 → W z.1 od σ T') → tt σ T Q
def EtR (tt : TT) (ρ : Rho) : Res Bool → Prop
  | .ok b => EvT K tt ρ b
  | .ex z => EvZT K W tt ρ (enX z)
  | .no => True
end
/-- rows of arguments -/
class EncA (τ : Type) where
  ea : τ → List D
open EncA (ea)
instance : EncA Unit := ⟨fun _ => []⟩
instance {α τ : Type} [Enc α] [EncA τ] : EncA (α × τ) := ⟨fun p => en p.1 :: ea p.2⟩
section
variable [Cm] (K : PySem.W.Frag) (W : L2.WX)
def EaR {τ : Type} [EncA τ] (ta : TA) (ρ : Rho) : Res τ → Prop
  | .ok a => EvA K ta ρ (ea a)
  | .ex z => EvZA K W ta ρ (enX z)
  | .no => True
end
/-- what a def keeps: it computes m; k: how it hands back -/
def fnP [Cm] {τ γ : Type} [EncA τ] (k : γ → Sl) (m : τ → Res γ) : PrD := fun ds R Z => ∃ t, ds = ea t ∧ match m t with
  | .ok r => R (k r)
  | .ex z => Z (enX z)
  | .no => False
def kIm {γ : Type} [Enc γ] (r : γ) : Sl := .im (en r)
def kCl [Cm] {γ : Type} [Py γ] (r : γ) : Sl := .cl (eo r)
def kOw {γ : Type} [Enc γ] (r : List γ) : Sl := .ow (r.map en)

section
variable [Cm] {K : PySem.W.Frag} {W : L2.WX} {ρ ρ' : Rho} {α β γ τ : Type} [Enc α] [Enc β] [Enc γ] [EncA τ] {te ta tb tc : TE} {tt tu : TT} {tr : TA} {i j : Nat}
theorem er_is {r r' : Res α} (h : EvR K W te ρ r) (e : r = r') : EvR K W te ρ r' := e ▸ h
theorem er_var {a : α} (e : ρ[i]? = some (.im (en a))) : EvR K W (tVar i) ρ (.ok a) := ev_var e
theorem er_int {i : Int} : EvR K W (tC (.int i)) ρ (.ok i) := ev_int
theorem er_bl {b : Bool} : EvR K W (tC (.bl b)) ρ (.ok b) := ev_bl
theorem er_non : EvR K W (tC .non) ρ (.ok ()) := ev_non
theorem er_str {s : Str} : EvR K W (tC (.str s)) ρ (.ok s) := ev_str
theorem er_un {r : V → Hp → VK → Prop} {g : α → Res β} {ra : Res α} (hg : ∀ a c, g a = .ok c → RuD K r (en a) (en c)) (hx : ∀ a z, g a ≠ .ex z) (h : EvR K W ta ρ ra) : EvR K W (tUn r ta) ρ (ra.bind g) := by
  cases ra with
  | ok a =>
    show EvR K W _ ρ (g a)
    cases e : g a with
    | ok c => exact ev_un h (hg a c e)
    | ex z => exact (hx a z e).elim
    | no => trivial
  | ex z => exact fun M T0 H T σ X Q e q => h M T0 H T σ X _ e q
  | no => trivial
theorem er_op {r : R2} {g : α → β → Res γ} {ra : Res α} {rb : Res β} (hg : ∀ a b c, g a b = .ok c → RvD K r (en a) (en b) (en c)) (hx : ∀ a b z, g a b ≠ .ex z) (ha : EvR K W ta ρ ra) (hb : EvR K W tb ρ rb) :
    EvR K W (tOp r ta tb) ρ (ra.bind fun a => rb.bind fun b => g a b) := by
  cases ra with
  | ok a =>
    cases rb with
    | ok b =>
      show EvR K W _ ρ (g a b)
      cases e : g a b with
      | ok c => exact ev_op ha hb (hg a b c e)
      | ex z => exact (hx a b z e).elim
      | no => trivial
    | ex z => exact ez_op2 ha hb
    | no => trivial
  | ex z => exact ez_op1 ha
  | no => trivial
/-- operations that make a new list -/
theorem eo_op {r : R2} {g : α → β → Res (List γ)} {ra : Res α} {rb : Res β} (hg : ∀ a b c, g a b = .ok c → RvO K r (en a) (en b) (c.map en)) (hx : ∀ a b z, g a b ≠ .ex z) (ha : EvR K W ta ρ ra) (hb : EvR K W tb ρ rb) :
    EoR K W (tOp r ta tb) ρ (ra.bind fun a => rb.bind fun b => g a b) := by
  cases ra with
  | ok a =>
    cases rb with
    | ok b =>
      show EoR K W _ ρ (g a b)
      cases e : g a b with
      | ok c => exact ev_opO ha hb (hg a b c e)
      | ex z => exact (hx a b z e).elim
      | no => trivial
    | ex z => exact ez_op2 ha hb
    | no => trivial
  | ex z => exact ez_op1 ha
  | no => trivial
/-! arguments -/
theorem ea_n : EaR K W tNil ρ (.ok ()) := ea_nil
theorem ea_c {ra : Res α} {rr : Res τ} (ha : EvR K W ta ρ ra) (hr : EaR K W tr ρ rr) : EaR K W (tCons ta tr) ρ (ra.bind fun a => rr.bind fun t => .ok (a, t)) := by
  cases ra with
  | ok a =>
    cases rr with
    | ok t => exact ea_cons ha hr
    | ex z => exact eza_next ha hr
    | no => trivial
  | ex z => exact eza_here ha
  | no => trivial
theorem er_cb {r : List V → Hp → VK → Prop} {g : τ → Res γ} {rr : Res τ} (hg : ∀ t c, g t = .ok c → RcD K r (ea t) (en c)) (hx : ∀ t z, g t ≠ .ex z) (hr : EaR K W tr ρ rr) : EvR K W (tCB r tr) ρ (rr.bind g) := by
  cases rr with
  | ok t =>
    show EvR K W _ ρ (g t)
    cases e : g t with
    | ok c => exact ev_cb hr (hg t c e)
    | ex z => exact (hx t z e).elim
    | no => trivial
  | ex z => exact ez_cb hr
  | no => trivial
theorem eo_cb {r : List V → Hp → VK → Prop} {g : τ → Res (List γ)} {rr : Res τ} (hg : ∀ t c, g t = .ok c → RcO K r (ea t) (c.map en)) (hx : ∀ t z, g t ≠ .ex z) (hr : EaR K W tr ρ rr) : EoR K W (tCB r tr) ρ (rr.bind g) := by
  cases rr with
  | ok t =>
    show EoR K W _ ρ (g t)
    cases e : g t with
    | ok c => exact ev_cbO hr (hg t c e)
    | ex z => exact (hx t z e).elim
    | no => trivial
  | ex z => exact ez_cb hr
  | no => trivial
/-! calls that may raise -/
theorem er_callS {m : τ → Res γ} {rr : Res τ} (hr : EaR K W tr ρ rr) : EvR K W (tCallS (spD K (fnP kIm m)) (WE W) tr) ρ (rr.bind m) := by
  cases rr with
  | ok t =>
    show EvR K W _ ρ (m t)
    cases e : m t with
    | ok c => exact ev_callS hr ⟨t, rfl, by rw [e]; exact rfl⟩
    | ex z => exact ez_call hr ⟨t, rfl, by rw [e]⟩
    | no => trivial
  | ex z => exact ez_args hr
  | no => trivial
theorem eo_callS {m : τ → Res (List γ)} {rr : Res τ} (hr : EaR K W tr ρ rr) : EoR K W (tCallS (spD K (fnP kOw m)) (WE W) tr) ρ (rr.bind m) := by
  cases rr with
  | ok t =>
    show EoR K W _ ρ (m t)
    cases e : m t with
    | ok c => exact ev_callSO hr ⟨t, rfl, by rw [e]; exact rfl⟩
    | ex z => exact ez_call hr ⟨t, rfl, by rw [e]⟩
    | no => trivial
  | ex z => exact ez_args hr
  | no => trivial
theorem ec_callSR {γ : Type} [Py γ] {m : τ → Res γ} {rr : Res τ} (hr : EaR K W tr ρ rr) : EcR K W (tCallS (spD K (fnP kCl m)) (WE W) tr) ρ (rr.bind m) := by
  cases rr with
  | ok t =>
    show EcR K W _ ρ (m t)
    cases e : m t with
    | ok c => exact ec_callS hr ⟨t, rfl, by rw [e]; exact rfl⟩
    | ex z => exact ez_call hr ⟨t, rfl, by rw [e]⟩
    | no => trivial
  | ex z => exact ez_args hr
  | no => trivial
/-! calls that do not -/
variable {E : XK}
theorem er_calm_ {m : τ → Res γ} {t : τ} (hr : EvA K tr ρ (ea t)) : EvR K W (tCall (spD K (fnP kIm m)) [] E tr) ρ (m t).calm := by
  cases e : m t with
  | ok c => exact ev_call hr ⟨t, rfl, by rw [e]; exact rfl⟩
  | ex z => trivial
  | no => trivial
/-- the arguments of such a call -/
def ArR (K : PySem.W.Frag) {τ : Type} [EncA τ] (ta : TA) (ρ : Rho) (r : Res τ) : Prop := ∀ t, r = .ok t → EvA K ta ρ (ea t)
theorem ar_n : ArR K tNil ρ (.ok ()) := fun _ _ => ea_nil
theorem ar_c {ra : Res α} {rr : Res τ} (ha : EvR K W ta ρ ra) (hr : ArR K tr ρ rr) : ArR K (tCons ta tr) ρ (ra.bind fun a => rr.bind fun t => .ok (a, t)) := by
  intro t e
  cases ra with
  | ok a =>
    cases rr with
    | ok t' =>
      have e : (a, t') = t := Res.ok.inj e
      subst e
      exact ea_cons ha (hr t' rfl)
    | ex z => cases e
    | no => cases e
  | ex z => cases e
  | no => cases e
theorem er_call {m : τ → Res γ} {rr : Res τ} (hr : EaR K W tr ρ rr) : EvR K W (tCall (spD K (fnP kIm m)) [] E tr) ρ (rr.bind m).calm := by
  cases rr with
  | ok t => exact er_calm_ hr
  | ex z => trivial
  | no => trivial
theorem eo_call {m : τ → Res (List γ)} {rr : Res τ} (hr : EaR K W tr ρ rr) : EoR K W (tCall (spD K (fnP kOw m)) [] E tr) ρ (rr.bind m).calm := by
  cases rr with
  | ok t =>
    show EoR K W _ ρ (m t).calm
    cases e : m t with
    | ok c => exact ev_callO hr ⟨t, rfl, by rw [e]; exact rfl⟩
    | ex z => trivial
    | no => trivial
  | ex z => trivial
  | no => trivial
theorem ec_callR {γ : Type} [Py γ] {m : τ → Res γ} {rr : Res τ} (hr : EaR K W tr ρ rr) : EcR K W (tCall (spD K (fnP kCl m)) [] E tr) ρ (rr.bind m).calm := by
  cases rr with
  | ok t =>
    show EcR K W _ ρ (m t).calm
    cases e : m t with
    | ok c => exact ec_call hr ⟨t, rfl, by rw [e]; exact rfl⟩
    | ex z => trivial
    | no => trivial
  | ex z => trivial
  | no => trivial
/-! from one form to another -/
section
variable {γ : Type} [Py γ]
theorem er_fz {r : Res γ} (h : EcR K W te ρ r) : EvR K W te ρ r := by
  cases r with
  | ok a =>
    have q := ev_er (ec_fz h)
    rw [er_o] at q
    exact q
  | ex z => exact h
  | no => trivial
theorem er_fzO {r : Res (List γ)} (h : EoR K W te ρ r) : EvR K W te ρ r := by
  cases r with
  | ok a =>
    show EvD K te ρ (en a)
    rw [en_lst]
    exact ev_fz h
  | ex z => exact h
  | no => trivial
theorem ec_scR {γ : Type} [Lf γ] {r : Res γ} (h : EvR K W te ρ r) : EcR K W te ρ r := by
  cases r with
  | ok a => exact fun M T0 H T σ X Q e q => (h : EvD K te ρ (en a)) M T0 H T σ X _ e fun v H1 T1 s1 t1 e1 i1 => q v [] H1 T1 s1 t1 e1 (isC_lf (Lf.lf a) i1)
  | ex z => exact h
  | no => trivial
theorem ec_owR {γ : Type} [Lf γ] {r : Res (List γ)} (h : EoR K W te ρ r) : EcR K W te ρ r := by
  cases r with
  | ok a =>
    show EvC K te ρ (eo a)
    rw [eo_lis]
    exact fun M T0 H T σ X Q e q => (h : EvO K te ρ (a.map en)) M T0 H T σ X _ e fun p vs H1 T1 s1 t1 e1 i1 => q (.ref p) [(p, .lst vs)] H1 T1 s1 t1 e1 ⟨p, vs, [], rfl, rfl, isCL_lf i1⟩
  | ex z => exact h
  | no => trivial
theorem eo_is {α : Type} [Enc α] {r r' : Res (List α)} (h : EoR K W te ρ r) (e : r = r') : EoR K W te ρ r' := e ▸ h
theorem ec_isR {r r' : Res γ} (h : EcR K W te ρ r) (e : r = r') : EcR K W te ρ r' := e ▸ h
/-- a typed thing as a plain one -/
theorem er_dy {r : Res γ} (h : EvR K W te ρ r) : EvR K W te ρ (r.bind fun a => .ok (dy a)) := by cases r <;> exact h
theorem ec_dy {r : Res γ} (h : EcR K W te ρ r) : EcR K W te ρ (r.bind fun a => .ok (dy a)) := by cases r <;> exact h
theorem eo_dy {r : Res (List γ)} (h : EoR K W te ρ r) : EoR K W te ρ (r.bind fun a => .ok (a.map dy)) := by
  cases r with
  | ok l =>
    show EvO K te ρ ((l.map dy).map en)
    rw [List.map_map]
    exact h
  | ex z => exact h
  | no => trivial
theorem er_cast {r : Res Dy} (h : EvR K W te ρ r) : EvR K W te ρ (r.bind fun d => cast γ d) := by
  cases r with
  | ok d =>
    show EvR K W te ρ (cast γ d)
    unfold cast
    cases e : un (α := γ) d with
    | none => trivial
    | some a =>
      have e2 := Py.dy_un d a e
      subst e2
      exact h
  | ex z => exact h
  | no => trivial
theorem ec_cast {r : Res Dy} (h : EcR K W te ρ r) : EcR K W te ρ (r.bind fun d => cast γ d) := by
  cases r with
  | ok d =>
    show EcR K W te ρ (cast γ d)
    unfold cast
    cases e : un (α := γ) d with
    | none => trivial
    | some a =>
      have e2 := Py.dy_un d a e
      subst e2
      exact h
  | ex z => exact h
  | no => trivial
end
/-! displays -/
theorem er_tup0 : EvR K W (tTup tNil) ρ (.ok (⟨[]⟩ : Tu Dy)) := ev_tup (ds := []) ea_nil (by decide)
theorem er_tup1 {γ : Type} [Py γ] {rr : Res (γ × Unit)} (h : EaR K W tr ρ rr) : EvR K W (tTup tr) ρ (rr.bind fun t => .ok (P1.mk t.1)) := by
  cases rr with
  | ok a => exact ev_tup h (show (1 : Nat) ≤ 1000 by decide)
  | ex z => exact ez_tup h
  | no => trivial
theorem er_tup2 {γ δ : Type} [Py γ] [Py δ] {rr : Res (γ × δ × Unit)} (h : EaR K W tr ρ rr) : EvR K W (tTup tr) ρ (rr.bind fun t => .ok (t.1, t.2.1)) := by
  cases rr with
  | ok a => exact ev_tup h (show (2 : Nat) ≤ 1000 by decide)
  | ex z => exact ez_tup h
  | no => trivial
theorem er_tup3 {γ δ ε : Type} [Py γ] [Py δ] [Py ε] {rr : Res (γ × δ × ε × Unit)} (h : EaR K W tr ρ rr) : EvR K W (tTup tr) ρ (rr.bind fun t => .ok (P3.mk t.1 t.2.1 t.2.2.1)) := by
  cases rr with
  | ok a => exact ev_tup h (show (3 : Nat) ≤ 1000 by decide)
  | ex z => exact ez_tup h
  | no => trivial
end
/-! the arguments all of one type: a list's items -/
section
variable [Cm] {K : PySem.W.Frag} {W : L2.WX} {ρ ρ' : Rho} {te ta tb tc : TE} {tt tu : TT} {tr : TA} {i j : Nat} {α β γ : Type}
def ElR0 (K : PySem.W.Frag) (W : L2.WX) [Enc α] (ta : TA) (ρ : Rho) : Res (List α) → Prop
  | .ok l => EvA K ta ρ (l.map en)
  | .ex z => EvZA K W ta ρ (enX z)
  | .no => True
def ElR (K : PySem.W.Frag) (W : L2.WX) [Enc α] (n : Nat) (ta : TA) (ρ : Rho) (r : Res (List α)) : Prop := ElR0 K W ta ρ r ∧ ∀ l, r = .ok l → l.length = n
theorem len_cons {n : Nat} {ra : Res α} {rr : Res (List α)} (h : ∀ l, rr = .ok l → l.length = n) : ∀ l, (ra.bind fun a => rr.bind fun t => .ok (a :: t)) = .ok l → l.length = n + 1 := by
  intro l e
  cases ra with
  | ok a =>
    cases rr with
    | ok t =>
      have e : a :: t = l := Res.ok.inj e
      subst e
      rw [List.length_cons, h t rfl]
    | ex z => cases e
    | no => cases e
  | ex z => cases e
  | no => cases e
theorem el_n [Enc α] : ElR K W 0 tNil ρ (.ok ([] : List α)) := ⟨ea_nil, fun l e => by cases e; rfl⟩
theorem el_c [Enc α] {n : Nat} {ra : Res α} {rr : Res (List α)} (ha : EvR K W ta ρ ra) (hr : ElR K W n tr ρ rr) : ElR K W (n + 1) (tCons ta tr) ρ (ra.bind fun a => rr.bind fun t => .ok (a :: t)) := by
  refine ⟨?_, len_cons hr.2⟩
  have hr := hr.1
  cases ra with
  | ok a =>
    cases rr with
    | ok t => exact ea_cons ha hr
    | ex z => exact eza_next ha hr
    | no => trivial
  | ex z => exact eza_here ha
  | no => trivial
def EclR0 (K : PySem.W.Frag) (W : L2.WX) [Py α] (ta : TA) (ρ : Rho) : Res (List α) → Prop
  | .ok l => EvCA K ta ρ (l.map eo)
  | .ex z => EvZA K W ta ρ (enX z)
  | .no => True
def EclR (K : PySem.W.Frag) (W : L2.WX) [Py α] (n : Nat) (ta : TA) (ρ : Rho) (r : Res (List α)) : Prop := EclR0 K W ta ρ r ∧ ∀ l, r = .ok l → l.length = n
theorem ecl_n [Py α] : EclR K W 0 tNil ρ (.ok ([] : List α)) := ⟨eca_nil, fun l e => by cases e; rfl⟩
theorem eza_nextC {d : D} {z : Exn} (ha : EvC K ta ρ d) (h : EvZA K W tr ρ z) : EvZA K W (tCons ta tr) ρ z := fun M T0 H T σ X Q e q =>
  ha M T0 H T σ X _ e fun v Lc H1 T1 s1 t1 e1 i1 => h M T0 H1 T1 σ _ _ (e1.sub (List.sublist_append_right Lc X)) fun od H' T' s' t' e' hx => q od H' T' (s1.trans s') (t1.trans t') e' (hx.dn t1)
theorem ecl_c [Py α] {n : Nat} {ra : Res α} {rr : Res (List α)} (ha : EcR K W ta ρ ra) (hr : EclR K W n tr ρ rr) : EclR K W (n + 1) (tCons ta tr) ρ (ra.bind fun a => rr.bind fun t => .ok (a :: t)) := by
  refine ⟨?_, len_cons hr.2⟩
  have hr := hr.1
  cases ra with
  | ok a =>
    cases rr with
    | ok t => exact eca_cons ha hr
    | ex z => exact eza_nextC ha hr
    | no => trivial
  | ex z => exact eza_here ha
  | no => trivial
/-- displays of lists -/
theorem eo_lst [Enc α] {n : Nat} {rr : Res (List α)} (h : ElR K W n tr ρ rr) (hn : n ≤ 1000 := by decide) : EoR K W (tLst tr) ρ rr := by
  obtain ⟨h, hl⟩ := h
  cases rr with
  | ok l => exact evo_lst h (by rw [List.length_map, hl l rfl]; exact hn)
  | ex z => exact ez_lst h
  | no => trivial
theorem ec_lstR [Py α] {n : Nat} {rr : Res (List α)} (h : EclR K W n tr ρ rr) (hn : n ≤ 1000 := by decide) : EcR K W (tLst tr) ρ rr := by
  obtain ⟨h, hl⟩ := h
  cases rr with
  | ok l =>
    show EvC K (tLst tr) ρ (eo l)
    rw [eo_lis]
    exact ec_lst h (by rw [List.length_map, hl l rfl]; exact hn)
  | ex z => exact ez_lst h
  | no => trivial
/-- closed tuples -/
theorem ec_tup2 [Py α] [Py β] {ra : Res α} {rb : Res β} (ha : EcR K W ta ρ ra) (hb : EcR K W tb ρ rb) (hr : ∀ (a : α) (b : β), ([eo a, eo b] : List D).any D.rf = true) (hs : ∀ (a : α) (b : β), [dy a, dy b].all Dy.sc = false) : EcR K W (tTup (tCons ta (tCons tb tNil))) ρ (ra.bind fun a => rb.bind fun b => .ok (a, b)) := by
  cases ra with
  | ok a =>
    cases rb with
    | ok t =>
      have e : (eo (a, t) : D) = .tup [eo a, eo t] := by
        show eoD (.tup [dy a, dy t]) = _
        rw [eoD, if_neg (by rw [hs]; decide)]
        rfl
      show EvC K _ ρ (eo (a, t))
      rw [e]
      exact ec_tup (eca_cons ha (eca_cons hb eca_nil)) (show (2 : Nat) ≤ 1000 by decide) (hr a t)
    | ex z => exact ez_tup (eza_nextC ha (eza_here hb))
    | no => trivial
  | ex z => exact ez_tup (eza_here ha)
  | no => trivial
/-! tests -/
theorem et_t {r : Res Bool} (h : EvR K W te ρ r) : EtR K W (tTest te) ρ r := by
  cases r with
  | ok b => exact et_test h
  | ex z => exact fun M T0 H T σ X Q e q => h M T0 H T σ X _ e q
  | no => trivial
theorem et_b {r : Res Bool} (h : EvR K W te ρ r) : EtR K W (tB te) ρ r := by
  cases r with
  | ok b => exact et_B h
  | ex z => exact fun M T0 H T σ X Q e q => h M T0 H T σ X _ e q
  | no => trivial
theorem et_is {r r' : Res Bool} (h : EtR K W tt ρ r) (e : r = r') : EtR K W tt ρ r' := e ▸ h
theorem et_n {r : Res Bool} (h : EtR K W tt ρ r) : EtR K W (tNot tt) ρ (r.bind fun b => .ok (!b)) := by
  cases r with
  | ok b => exact et_not h
  | ex z => exact fun M T0 H T σ X Q e q => h M T0 H T σ X _ e q
  | no => trivial
theorem et_yesR : EtR K W tYes ρ (.ok true) := et_yes
theorem et_andP {a b : Bool} (h1 : EtR K W tt ρ (.ok a)) (h2 : EtR K W tu ρ (.ok b)) : EtR K W (tAnd tt tu) ρ (.ok (a && b)) := et_and h1 fun _ => h2
theorem et_orP {a b : Bool} (h1 : EtR K W tt ρ (.ok a)) (h2 : EtR K W tu ρ (.ok b)) : EtR K W (tOr tt tu) ρ (.ok (a || b)) := et_or h1 fun _ => h2
theorem et_andR {a b : Res Bool} (h1 : EtR K W tt ρ a) (h2 : EtR K W tu ρ b) : EtR K W (tAnd tt tu) ρ (andR a b) := by
  cases a with
  | ok x =>
    cases x with
    | false => exact (et_and (b := false) h1 (fun h => nomatch h) : EvT K (tAnd tt tu) ρ (false && false))
    | true =>
      show EtR K W _ ρ b
      cases b with
      | ok y => exact (et_and h1 fun _ => h2 : EvT K (tAnd tt tu) ρ (true && y))
      | ex z => exact fun M T0 H T σ X Q e q => (h1 : EvT K tt ρ true) M T0 H T σ X _ e fun H1 T1 s1 t1 e1 => (h2 : EvZT K W tu ρ (enX z)) M T0 H1 T1 σ X _ e1 fun od H' T' s' t' e' hx => q od H' T' (s1.trans s') (t1.trans t') e' (hx.dn t1)
      | no => trivial
  | ex z => exact fun M T0 H T σ X Q e q => h1 M T0 H T σ X _ e q
  | no => trivial
theorem et_orR {a b : Res Bool} (h1 : EtR K W tt ρ a) (h2 : EtR K W tu ρ b) : EtR K W (tOr tt tu) ρ (orR a b) := by
  cases a with
  | ok x =>
    cases x with
    | true => exact (et_or (b := false) h1 (fun h => nomatch h) : EvT K (tOr tt tu) ρ (true || false))
    | false =>
      show EtR K W _ ρ b
      cases b with
      | ok y => exact (et_or h1 fun _ => h2 : EvT K (tOr tt tu) ρ (false || y))
      | ex z => exact fun M T0 H T σ X Q e q => (h1 : EvT K tt ρ false) M T0 H T σ X _ e fun H1 T1 s1 t1 e1 => (h2 : EvZT K W tu ρ (enX z)) M T0 H1 T1 σ X _ e1 fun od H' T' s' t' e' hx => q od H' T' (s1.trans s') (t1.trans t') e' (hx.dn t1)
      | no => trivial
  | ex z => exact fun M T0 H T σ X Q e q => h1 M T0 H T σ X _ e q
  | no => trivial
end
end FS
set_option Elab.async false
set_option linter.all false
set_option maxRecDepth 100000
set_option maxHeartbeats 4000000
set_option exponentiation.threshold 20000
/-! Operations. -/
namespace FS
open PySem PySem.Spec PyProof.Rows L2
open Py (dy un)
open Enc (en)
open EncA (ea)

theorem ofO_ok {α : Type} {o : Option α} {c : α} (h : ofO o = .ok c) : o = some c := by
  cases o with
  | none => cases h
  | some a => exact congrArg some (Res.ok.inj h)
theorem ofO_ex {α : Type} {o : Option α} {z : Xn} : ofO o ≠ .ex z := by cases o <;> exact fun h => nomatch h
theorem if_ok {α : Type} {p : Prop} [Decidable p] {a c : α} (h : (if p then Res.ok a else .no) = .ok c) : p ∧ a = c := by
  by_cases hp : p
  · rw [if_pos hp] at h
    exact ⟨hp, Res.ok.inj h⟩
  · rw [if_neg hp] at h
    cases h
theorem if_ex {α : Type} {p : Prop} [Decidable p] {a : α} {z : Xn} : (if p then Res.ok a else .no) ≠ .ex z := by
  by_cases hp : p
  · rw [if_pos hp]; exact fun h => nomatch h
  · rw [if_neg hp]; exact fun h => nomatch h
theorem idx_eq (n : Nat) (i : Int) : idx n i = ixN n i := rfl
theorem at_ok {α β : Type} {f : α → β} {l : List α} {i : Int} {c : α} (h : at_ l i = .ok c) : atI (l.map f) i = some (f c) := by
  have h := ofO_ok h
  unfold atI
  rw [List.length_map, ← idx_eq]
  obtain ⟨j, h1, h2⟩ := Option.bind_eq_some_iff.mp h
  rw [h1]
  show (l.map f)[j]? = some (f c)
  rw [List.getElem?_map, h2]
  rfl
section
variable [Cm] {K : PySem.W.Frag} {W : L2.WX} {ρ ρ' : Rho} {te ta tb tc : TE} {tt tu : TT} {tr : TA} {i j : Nat} {α β γ : Type}
theorem er_add {ra rb : Res Int} (ha : EvR K W ta ρ ra) (hb : EvR K W tb ρ rb) : EvR K W (tOp (rAddA K) ta tb) ρ (ra.bind fun a => rb.bind fun b => .ok (a + b)) := er_op (fun a b c h => by cases h; exact rv_add) (fun _ _ _ h => nomatch h) ha hb
theorem er_sub {ra rb : Res Int} (ha : EvR K W ta ρ ra) (hb : EvR K W tb ρ rb) : EvR K W (tOp rSubA ta tb) ρ (ra.bind fun a => rb.bind fun b => .ok (a - b)) := er_op (fun a b c h => by cases h; exact rv_sub) (fun _ _ _ h => nomatch h) ha hb
theorem er_lt {ra rb : Res Int} (ha : EvR K W ta ρ ra) (hb : EvR K W tb ρ rb) : EvR K W (tOp rLtA ta tb) ρ (ra.bind fun a => rb.bind fun b => .ok (decide (a < b))) := er_op (fun a b c h => by cases h; exact rv_lt) (fun _ _ _ h => nomatch h) ha hb
theorem er_le {ra rb : Res Int} (ha : EvR K W ta ρ ra) (hb : EvR K W tb ρ rb) : EvR K W (tOp rLeA ta tb) ρ (ra.bind fun a => rb.bind fun b => .ok (decide (a ≤ b))) := er_op (fun a b c h => by cases h; exact rv_le) (fun _ _ _ h => nomatch h) ha hb
theorem er_gt {ra rb : Res Int} (ha : EvR K W ta ρ ra) (hb : EvR K W tb ρ rb) : EvR K W (tOp rGtA ta tb) ρ (ra.bind fun a => rb.bind fun b => .ok (decide (b < a))) := er_op (fun a b c h => by cases h; exact rv_gt) (fun _ _ _ h => nomatch h) ha hb
theorem er_ge {ra rb : Res Int} (ha : EvR K W ta ρ ra) (hb : EvR K W tb ρ rb) : EvR K W (tOp rGeA ta tb) ρ (ra.bind fun a => rb.bind fun b => .ok (decide (b ≤ a))) := er_op (fun a b c h => by cases h; exact rv_ge) (fun _ _ _ h => nomatch h) ha hb
theorem er_mul {ra rb : Res Int} (ha : EvR K W ta ρ ra) (hb : EvR K W tb ρ rb) : EvR K W (tOp rMulA ta tb) ρ (ra.bind fun a => rb.bind fun b => mul a b) := er_op (fun a b c h => by
  obtain ⟨hp, rfl⟩ := if_ok h
  rcases hp with hp | hp
  · exact rv_mul (hp.imp (fun h => by omega) (fun h => by omega))
  · exact rv_mulW hp) (fun _ _ _ h => if_ex h) ha hb
theorem er_mulL {a : Int} {rb : Res Int} (ha : EvR K W ta ρ (.ok a)) (hb : EvR K W tb ρ rb) (h : a.natAbs < 2 ^ 64) : EvR K W (tOp rMulA ta tb) ρ (rb.bind fun b => .ok (a * b)) := by
  have q := er_mul ha hb
  refine er_is q ?_
  cases rb with
  | ok b => show mul a b = _; unfold mul; rw [if_pos (.inl (.inl h))]; rfl
  | ex z => rfl
  | no => rfl
theorem er_mulR {ra : Res Int} {b : Int} (ha : EvR K W ta ρ ra) (hb : EvR K W tb ρ (.ok b)) (h : b.natAbs < 2 ^ 64) : EvR K W (tOp rMulA ta tb) ρ (ra.bind fun a => .ok (a * b)) := by
  have q := er_mul ha hb
  refine er_is q ?_
  cases ra with
  | ok a => show mul a b = _; unfold mul; rw [if_pos (.inl (.inr h))]; rfl
  | ex z => rfl
  | no => rfl
theorem er_div {ra rb : Res Int} (ha : EvR K W ta ρ ra) (hb : EvR K W tb ρ rb) : EvR K W (tOp rDivA ta tb) ρ (ra.bind fun a => rb.bind fun b => fdiv a b) := er_op (fun a b c h => by
  obtain ⟨hp, rfl⟩ := if_ok h
  exact rv_div hp) (fun _ _ _ h => if_ex h) ha hb
theorem er_divL {ra : Res Int} {b : Int} (ha : EvR K W ta ρ ra) (hb : EvR K W tb ρ (.ok b)) (h : 0 < b ∧ b.natAbs.log2 < 9000) : EvR K W (tOp rDivA ta tb) ρ (ra.bind fun a => .ok (a / b)) := by
  refine er_is (er_div ha hb) ?_
  cases ra with
  | ok a => show fdiv a b = _; unfold fdiv; rw [if_pos h]; rfl
  | ex z => rfl
  | no => rfl
theorem er_mod {ra rb : Res Int} (ha : EvR K W ta ρ ra) (hb : EvR K W tb ρ rb) : EvR K W (tOp rModA ta tb) ρ (ra.bind fun a => rb.bind fun b => fmod a b) := er_op (fun a b c h => by
  obtain ⟨hp, rfl⟩ := if_ok h
  exact rv_mod hp) (fun _ _ _ h => if_ex h) ha hb
theorem er_modL {ra : Res Int} {b : Int} (ha : EvR K W ta ρ ra) (hb : EvR K W tb ρ (.ok b)) (h : 0 < b) : EvR K W (tOp rModA ta tb) ρ (ra.bind fun a => .ok (a % b)) := by
  refine er_is (er_mod ha hb) ?_
  cases ra with
  | ok a => show fmod a b = _; unfold fmod; rw [if_pos h]; rfl
  | ex z => rfl
  | no => rfl
theorem er_pow {ra rb : Res Int} (ha : EvR K W ta ρ ra) (hb : EvR K W tb ρ rb) : EvR K W (tOp rPowA ta tb) ρ (ra.bind fun a => rb.bind fun b => pow_ a b) := er_op (fun a b c h => by
  obtain ⟨hp, rfl⟩ := if_ok h
  exact rv_pow hp rfl) (fun _ _ _ h => if_ex h) ha hb
/-- a power of written numbers -/
theorem er_powC {a b z : Int} (h : CPow a b) (e : a ^ b.toNat = z) : EvR K W (tOp rPowA (tC (.int a)) (tC (.int b))) ρ (.ok z) := ev_op (ev_int (i := a)) (ev_int (i := b)) (rv_pow h e)
theorem er_neg {ra : Res Int} (ha : EvR K W ta ρ ra) : EvR K W (tUn rNegA ta) ρ (ra.bind fun a => .ok (-a)) := er_un (fun a c h => by cases h; exact ru_neg) (fun _ _ h => nomatch h) ha
theorem eo_add [Py α] {ra rb : Res (List α)} (ha : EvR K W ta ρ ra) (hb : EvR K W tb ρ rb) : EoR K W (tOp (rAddA K) ta tb) ρ (ra.bind fun a => rb.bind fun b => cat a b) := eo_op (fun a b c h => by
  obtain ⟨hp, rfl⟩ := if_ok h
  rw [en_lst, en_lst, List.map_append]
  exact rvo_add (by rw [List.length_map, List.length_map]; exact hp)) (fun _ _ _ h => if_ex h) ha hb
theorem eo_rep [Py α] {ra : Res (List α)} {rb : Res Int} (ha : EvR K W ta ρ ra) (hb : EvR K W tb ρ rb) : EoR K W (tOp rMulA ta tb) ρ (ra.bind fun a => rb.bind fun b => rep a b) := eo_op (fun a b c h => by
  obtain ⟨hp, rfl⟩ := if_ok h
  rw [en_lst, List.map_flatten, List.map_replicate]
  exact rvo_mul hp.1 (by rw [List.length_map]; exact hp.2)) (fun _ _ _ h => if_ex h) ha hb
/-! == -/
mutual
theorem en_py : ∀ (n : Nat) (a b : Dy), a.flat n = true → b.flat n = true → PyData.eqv (enD a).py (enD b).py = a.eqv b
  | n, .non, .non, _, _ => rfl
  | n, .non, .bl _, _, _ => rfl
  | n, .non, .int _, _, _ => rfl
  | n, .non, .str _, _, _ => rfl
  | n, .non, .tup _, _, _ => rfl
  | n, .non, .lst _, _, _ => rfl
  | n, .bl _, .non, _, _ => rfl
  | n, .bl _, .bl _, _, _ => rfl
  | n, .bl _, .int _, _, _ => rfl
  | n, .bl _, .str _, _, _ => rfl
  | n, .bl _, .tup _, _, _ => rfl
  | n, .bl _, .lst _, _, _ => rfl
  | n, .int _, .non, _, _ => rfl
  | n, .int _, .bl _, _, _ => rfl
  | n, .int _, .int _, _, _ => rfl
  | n, .int _, .str _, _, _ => rfl
  | n, .int _, .tup _, _, _ => rfl
  | n, .int _, .lst _, _, _ => rfl
  | n, .str _, .non, _, _ => rfl
  | n, .str _, .bl _, _, _ => rfl
  | n, .str _, .int _, _, _ => rfl
  | n, .str _, .str _, _, _ => rfl
  | n, .str _, .tup _, _, _ => rfl
  | n, .str _, .lst _, _, _ => rfl
  | n, .tup _, .non, _, _ => rfl
  | n, .tup _, .bl _, _, _ => rfl
  | n, .tup _, .int _, _, _ => rfl
  | n, .tup _, .str _, _, _ => rfl
  | n + 1, .tup l, .tup m, h, h' => en_pyL n l m h h'
  | 0, .tup _, .tup _, h, _ => by cases h
  | n, .tup _, .lst _, _, _ => rfl
  | n, .lst _, .non, _, _ => rfl
  | n, .lst _, .bl _, _, _ => rfl
  | n, .lst _, .int _, _, _ => rfl
  | n, .lst _, .str _, _, _ => rfl
  | n, .lst _, .tup _, _, _ => rfl
  | n + 1, .lst l, .lst m, h, h' => en_pyL n l m h h'
  | 0, .lst _, .lst _, h, _ => by cases h
  | n, .ins _ _, _, h, _ => by cases n <;> cases h
  | n, .non, .ins _ _, _, h => by cases n <;> cases h
  | n, .bl _, .ins _ _, _, h => by cases n <;> cases h
  | n, .int _, .ins _ _, _, h => by cases n <;> cases h
  | n, .str _, .ins _ _, _, h => by cases n <;> cases h
  | n, .tup _, .ins _ _, _, h => by cases n <;> cases h
  | n, .lst _, .ins _ _, _, h => by cases n <;> cases h
theorem en_pyL : ∀ (n : Nat) (l m : List Dy), Dy.flatL n l = true → Dy.flatL n m = true → PyData.eqvAll (D.pyL (enL l)) (D.pyL (enL m)) = Dy.eqvL l m
  | n, [], [], _, _ => rfl
  | n, [], _ :: _, _, _ => rfl
  | n, _ :: _, [], _, _ => rfl
  | n, a :: l, b :: m, h, h' => by
    have e : ∀ (d : Dy) k, Dy.flatL n (d :: k) = (Dy.flat n d && Dy.flatL n k) := fun d k => by cases n <;> rfl
    rw [e, Bool.and_eq_true] at h h'
    show (PyData.eqv (enD a).py (enD b).py && PyData.eqvAll (D.pyL (enL l)) (D.pyL (enL m))) = (a.eqv b && Dy.eqvL l m)
    rw [en_py n a b h.1 h'.1, en_pyL n l m h.2 h'.2]
end
mutual
theorem flat_en : ∀ (n : Nat) (d : Dy), d.flat n = true → (enD d).flat n = true
  | n, .non, _ => by cases n <;> rfl
  | n, .bl _, _ => by cases n <;> rfl
  | n, .int _, _ => by cases n <;> rfl
  | n, .str x, h => by cases n <;> exact h
  | n + 1, .tup l, h => flatL_en n l h
  | n + 1, .lst l, h => flatL_en n l h
  | 0, .tup l, h => by cases h
  | 0, .lst l, h => by cases h
  | n, .ins _ _, h => by cases n <;> cases h
theorem flatL_en : ∀ (n : Nat) (l : List Dy), Dy.flatL n l = true → D.flatL n (enL l) = true
  | n, [], _ => by cases n <;> rfl
  | n, d :: l, h => by
    have e : Dy.flatL n (d :: l) = (Dy.flat n d && Dy.flatL n l) := by cases n <;> rfl
    rw [e, Bool.and_eq_true] at h
    have e2 : D.flatL n (enD d :: enL l) = (D.flat n (enD d) && D.flatL n (enL l)) := by cases n <;> rfl
    show D.flatL n (enD d :: enL l) = true
    rw [e2, flat_en n d h.1, flatL_en n l h.2] <;> rfl
end
theorem er_eq [PyEq α] {ra rb : Res α} (ha : EvR K W ta ρ ra) (hb : EvR K W tb ρ rb) (hn : PyEq.n α ≤ 60 := by decide) : EvR K W (tOp (rEqA K) ta tb) ρ (ra.bind fun a => rb.bind fun b => .ok (decide (a = b))) := er_op (fun a b c h => by
  cases h
  have q := rv_eqD (K := K) (x := enD (dy a)) (y := enD (dy b)) (flat_en _ _ (PyEq.flat a)) (flat_en _ _ (PyEq.flat b)) (Nat.le_trans hn (by decide))
  rw [en_py _ _ _ (PyEq.flat a) (PyEq.flat b), PyEq.eqv] at q
  exact q) (fun _ _ _ h => nomatch h) ha hb
theorem er_ne [PyEq α] {ra rb : Res α} (ha : EvR K W ta ρ ra) (hb : EvR K W tb ρ rb) (hn : PyEq.n α ≤ 60 := by decide) : EvR K W (tOp (rNeA K) ta tb) ρ (ra.bind fun a => rb.bind fun b => .ok (!decide (a = b))) := er_op (fun a b c h => by
  cases h
  have q := rv_neD (K := K) (x := enD (dy a)) (y := enD (dy b)) (flat_en _ _ (PyEq.flat a)) (flat_en _ _ (PyEq.flat b)) (Nat.le_trans hn (by decide))
  rw [en_py _ _ _ (PyEq.flat a) (PyEq.flat b), PyEq.eqv] at q
  exact q) (fun _ _ _ h => nomatch h) ha hb
theorem er_eqS {ra rb : Res Str} (ha : EvR K W ta ρ ra) (hb : EvR K W tb ρ rb) : EvR K W (tOp (rEqA K) ta tb) ρ (ra.bind fun a => rb.bind fun b => .ok (decide (a = b))) := er_op (fun a b c h => by cases h; exact rv_eqStr) (fun _ _ _ h => nomatch h) ha hb
theorem er_neS {ra rb : Res Str} (ha : EvR K W ta ρ ra) (hb : EvR K W tb ρ rb) : EvR K W (tOp (rNeA K) ta tb) ρ (ra.bind fun a => rb.bind fun b => .ok (!decide (a = b))) := er_op (fun a b c h => by cases h; exact rv_neStr) (fun _ _ _ h => nomatch h) ha hb
theorem er_eqD {ra rb : Res Dy} (ha : EvR K W ta ρ ra) (hb : EvR K W tb ρ rb) : EvR K W (tOp (rEqA K) ta tb) ρ (ra.bind fun a => rb.bind fun b => eqD a b) := er_op (fun a b c h => by
  obtain ⟨hp, rfl⟩ := if_ok h
  rw [Bool.and_eq_true] at hp
  have q := rv_eqD (K := K) (flat_en _ _ hp.1) (flat_en _ _ hp.2) (by decide)
  rw [en_py _ _ _ hp.1 hp.2] at q
  exact q) (fun _ _ _ h => if_ex h) ha hb
theorem er_neD {ra rb : Res Dy} (ha : EvR K W ta ρ ra) (hb : EvR K W tb ρ rb) : EvR K W (tOp (rNeA K) ta tb) ρ (ra.bind fun a => rb.bind fun b => (eqD a b).bind fun c => .ok (!c)) := er_op (fun a b c h => by
  cases e : eqD a b with
  | no => rw [e] at h; cases h
  | ex z => rw [e] at h; cases h
  | ok v =>
    rw [e] at h
    cases h
    obtain ⟨hp, rfl⟩ := if_ok e
    rw [Bool.and_eq_true] at hp
    have q := rv_neD (K := K) (flat_en _ _ hp.1) (flat_en _ _ hp.2) (by decide)
    rw [en_py _ _ _ hp.1 hp.2] at q
    exact q) (fun a b z h => by
  cases e : eqD a b with
  | no => rw [e] at h; cases h
  | ex z => exact if_ex e
  | ok v => rw [e] at h; cases h) ha hb
/-! is None -/
theorem isNon_en : ∀ d : Dy, isNon (enD d) = isNone d := fun d => by cases d <;> rfl
theorem er_isN {ra : Res Dy} (ha : EvR K W ta ρ ra) : EvR K W (tOp rIsN ta (tC .non)) ρ (ra.bind fun a => .ok (isNone a)) := by
  cases ra with
  | ok a =>
    have q := ev_op (K := K) ha (ev_non (ρ := ρ)) (rv_is (K := K))
    rw [show (en a : D) = enD a from rfl, isNon_en] at q
    exact q
  | ex z => exact ez_op1 ha
  | no => trivial
theorem er_notN {ra : Res Dy} (ha : EvR K W ta ρ ra) : EvR K W (tOp rNotN ta (tC .non)) ρ (ra.bind fun a => .ok (!isNone a)) := by
  cases ra with
  | ok a =>
    have q := ev_op (K := K) ha (ev_non (ρ := ρ)) (rv_isnot (K := K))
    rw [show (en a : D) = enD a from rfl, isNon_en] at q
    exact q
  | ex z => exact ez_op1 ha
  | no => trivial
/-! places -/
theorem er_ix [Py α] {ra : Res (List α)} {rb : Res Int} (ha : EvR K W ta ρ ra) (hb : EvR K W tb ρ rb) : EvR K W (tOp (rIx K) ta tb) ρ (ra.bind fun a => rb.bind fun b => at_ a b) := er_op (fun a b c h => by
  rw [en_lst]
  exact rv_ixxL (at_ok h)) (fun _ _ _ h => ofO_ex h) ha hb
theorem er_ixU [Py α] {ra : Res (Tu α)} {rb : Res Int} (ha : EvR K W ta ρ ra) (hb : EvR K W tb ρ rb) : EvR K W (tOp (rIx K) ta tb) ρ (ra.bind fun a => rb.bind fun b => at_ a.l b) := er_op (fun a b c h => by
  rw [en_tu]
  exact rv_ixxT (at_ok h)) (fun _ _ _ h => ofO_ex h) ha hb
theorem er_ixC {ra : Res Scr} {rb : Res Int} (ha : EvR K W ta ρ ra) (hb : EvR K W tb ρ rb) : EvR K W (tOp (rIx K) ta tb) ρ (ra.bind fun a => rb.bind fun b => at_ a.ns b) := er_op (fun a b c h => by
  have h := at_ok (f := id) h
  rw [List.map_id] at h
  exact rv_ixxC h) (fun _ _ _ h => ofO_ex h) ha hb
theorem er_ixD {ra : Res Dy} {rb : Res Int} (ha : EvR K W ta ρ ra) (hb : EvR K W tb ρ rb) : EvR K W (tOp (rIx K) ta tb) ρ (ra.bind fun a => rb.bind fun b => atD a b) := er_op (fun a b c h => by
  cases a with
  | lst l =>
    show RvD K _ (.lst (enL l)) _ _
    rw [enL_map]
    exact rv_ixxL (at_ok h)
  | tup l =>
    show RvD K _ (.tup (enL l)) _ _
    rw [enL_map]
    exact rv_ixxT (at_ok h)
  | _ => cases h) (fun a b z h => by cases a <;> first | exact ofO_ex h | cases h) ha hb
theorem er_p1 [Py α] [Py β] {ra : Res (α × β)} (ha : EvR K W ta ρ ra) : EvR K W (tOp (rIx K) ta (tC (.int 0))) ρ (ra.bind fun p => .ok p.1) := by
  cases ra with
  | ok a => exact ev_op ha (ev_int (i := 0)) (rv_ixxT rfl)
  | ex z => exact ez_op1 ha
  | no => trivial
theorem er_p2 [Py α] [Py β] {ra : Res (α × β)} (ha : EvR K W ta ρ ra) : EvR K W (tOp (rIx K) ta (tC (.int 1))) ρ (ra.bind fun p => .ok p.2) := by
  cases ra with
  | ok a => exact ev_op ha (ev_int (i := 1)) (rv_ixxT rfl)
  | ex z => exact ez_op1 ha
  | no => trivial
theorem er_q1 [Py α] [Py β] [Py γ] {ra : Res (P3 α β γ)} (ha : EvR K W ta ρ ra) : EvR K W (tOp (rIx K) ta (tC (.int 0))) ρ (ra.bind fun p => .ok p.a) := by
  cases ra with
  | ok a => exact ev_op ha (ev_int (i := 0)) (rv_ixxT rfl)
  | ex z => exact ez_op1 ha
  | no => trivial
theorem er_q2 [Py α] [Py β] [Py γ] {ra : Res (P3 α β γ)} (ha : EvR K W ta ρ ra) : EvR K W (tOp (rIx K) ta (tC (.int 1))) ρ (ra.bind fun p => .ok p.b) := by
  cases ra with
  | ok a => exact ev_op ha (ev_int (i := 1)) (rv_ixxT rfl)
  | ex z => exact ez_op1 ha
  | no => trivial
theorem er_q3 [Py α] [Py β] [Py γ] {ra : Res (P3 α β γ)} (ha : EvR K W ta ρ ra) : EvR K W (tOp (rIx K) ta (tC (.int 2))) ρ (ra.bind fun p => .ok p.c) := by
  cases ra with
  | ok a => exact ev_op ha (ev_int (i := 2)) (rv_ixxT rfl)
  | ex z => exact ez_op1 ha
  | no => trivial
/-! built-in functions of one argument -/
theorem er_cb1 {r : List V → Hp → VK → Prop} [Enc α] [Enc γ] {g : α → Res γ} {ra : Res α} (hg : ∀ t c, g t = .ok c → RcD K r [en t] (en c)) (hx : ∀ t z, g t ≠ .ex z) (ha : EvR K W ta ρ ra) : EvR K W (tCB r (tCons ta tNil)) ρ (ra.bind g) := by
  cases ra with
  | ok t =>
    show EvR K W _ ρ (g t)
    cases e : g t with
    | ok c => exact ev_cb (ea_cons ha ea_nil) (hg t c e)
    | ex z => exact (hx t z e).elim
    | no => trivial
  | ex z => exact ez_cb (eza_here ha)
  | no => trivial
theorem eo_cb1 {r : List V → Hp → VK → Prop} [Enc α] [Enc γ] {g : α → Res (List γ)} {ra : Res α} (hg : ∀ t c, g t = .ok c → RcO K r [en t] (c.map en)) (hx : ∀ t z, g t ≠ .ex z) (ha : EvR K W ta ρ ra) : EoR K W (tCB r (tCons ta tNil)) ρ (ra.bind g) := by
  cases ra with
  | ok t =>
    show EoR K W _ ρ (g t)
    cases e : g t with
    | ok c => exact ev_cbO (ea_cons ha ea_nil) (hg t c e)
    | ex z => exact (hx t z e).elim
    | no => trivial
  | ex z => exact ez_cb (eza_here ha)
  | no => trivial
theorem er_cb2 {r : List V → Hp → VK → Prop} [Enc α] [Enc β] [Enc γ] {g : α → β → Res γ} {ra : Res α} {rb : Res β} (hg : ∀ a b c, g a b = .ok c → RcD K r [en a, en b] (en c)) (hx : ∀ a b z, g a b ≠ .ex z) (ha : EvR K W ta ρ ra) (hb : EvR K W tb ρ rb) : EvR K W (tCB r (tCons ta (tCons tb tNil))) ρ (ra.bind fun a => rb.bind fun b => g a b) := by
  cases ra with
  | ok t =>
    cases rb with
    | ok u =>
      show EvR K W _ ρ (g t u)
      cases e : g t u with
      | ok c => exact ev_cb (ea_cons ha (ea_cons hb ea_nil)) (hg t u c e)
      | ex z => exact (hx t u z e).elim
      | no => trivial
    | ex z => exact ez_cb (eza_next ha (eza_here hb))
    | no => trivial
  | ex z => exact ez_cb (eza_here ha)
  | no => trivial
theorem er_len [Py α] {ra : Res (List α)} (ha : EvR K W ta ρ ra) : EvR K W (tCB (rLenA K) (tCons ta tNil)) ρ (ra.bind fun a => .ok (a.length : Int)) := er_cb1 (fun t c h => by
  cases h
  have q := rc_len (K := K) (l := t.map en)
  rw [List.length_map, ← en_lst] at q
  exact q) (fun _ _ h => nomatch h) ha
theorem er_lenU [Py α] {ra : Res (Tu α)} (ha : EvR K W ta ρ ra) : EvR K W (tCB (rLenA K) (tCons ta tNil)) ρ (ra.bind fun a => .ok (a.l.length : Int)) := er_cb1 (fun t c h => by
  cases h
  have q := rc_lent (K := K) (l := t.l.map en)
  rw [List.length_map, ← en_tu] at q
  exact q) (fun _ _ h => nomatch h) ha
theorem er_lenC {ra : Res Scr} (ha : EvR K W ta ρ ra) : EvR K W (tCB (rLenA K) (tCons ta tNil)) ρ (ra.bind fun a => .ok (a.ns.length : Int)) := er_cb1 (fun t c h => by cases h; exact rc_lenc) (fun _ _ h => nomatch h) ha
theorem er_lenD {ra : Res Dy} (ha : EvR K W ta ρ ra) : EvR K W (tCB (rLenA K) (tCons ta tNil)) ρ (ra.bind fun a => lenD a) := er_cb1 (fun t c h => by
  cases t with
  | lst l =>
    cases h
    have q := rc_len (K := K) (l := enL l)
    rw [enL_map, List.length_map, ← enL_map] at q
    exact q
  | tup l =>
    cases h
    have q := rc_lent (K := K) (l := enL l)
    rw [enL_map, List.length_map, ← enL_map] at q
    exact q
  | str s =>
    obtain ⟨hp, rfl⟩ := if_ok h
    exact rc_lens hp
  | _ => cases h) (fun t z h => by cases t <;> first | exact if_ex h | cases h) ha
theorem er_toint {ra : Res Int} (ha : EvR K W ta ρ ra) : EvR K W (tCB rIntA (tCons ta tNil)) ρ ra := by
  have q := er_cb1 (K := K) (W := W) (ρ := ρ) (ta := ta) (g := fun i : Int => .ok i) (fun t c h => by cases h; exact rc_toint) (fun _ _ h => nomatch h) ha
  refine er_is q ?_
  cases ra <;> rfl
theorem er_tointB {ra : Res Bool} (ha : EvR K W ta ρ ra) : EvR K W (tCB rIntA (tCons ta tNil)) ρ (ra.bind fun b => .ok (b2i b)) := er_cb1 (fun t c h => by cases h; exact rc_tointB) (fun _ _ h => nomatch h) ha
theorem er_abs {ra : Res Int} (ha : EvR K W ta ρ ra) : EvR K W (tCB rAbsA (tCons ta tNil)) ρ (ra.bind fun b => .ok (iabs b)) := er_cb1 (fun t c h => by cases h; exact rc_absv) (fun _ _ h => nomatch h) ha
theorem er_gcd {ra rb : Res Int} (ha : EvR K W ta ρ ra) (hb : EvR K W tb ρ rb) : EvR K W (tCB rGcd (tCons ta (tCons tb tNil))) ρ (ra.bind fun a => rb.bind fun b => .ok (gcd_ a b)) := er_cb2 (fun a b c h => by cases h; exact rc_gcd) (fun _ _ _ h => nomatch h) ha hb
theorem er_lcm {ra rb : Res Int} (ha : EvR K W ta ρ ra) (hb : EvR K W tb ρ rb) : EvR K W (tCB rLcmA (tCons ta (tCons tb tNil))) ρ (ra.bind fun a => rb.bind fun b => lcm_ a b) := er_cb2 (fun a b c h => by
  obtain ⟨hp, rfl⟩ := if_ok h
  exact rc_lcm hp) (fun _ _ _ h => if_ex h) ha hb
theorem er_min2 {ra rb : Res Int} (ha : EvR K W ta ρ ra) (hb : EvR K W tb ρ rb) : EvR K W (tCB (fun xs H Q => ∃ i j, xs = [.int i, .int j] ∧ Q (.int (if j < i then j else i)) H) (tCons ta (tCons tb tNil))) ρ (ra.bind fun a => rb.bind fun b => .ok (min a b)) := er_cb2 (fun a b c h => by cases h; exact rc_min2) (fun _ _ _ h => nomatch h) ha hb
theorem er_max2 {ra rb : Res Int} (ha : EvR K W ta ρ ra) (hb : EvR K W tb ρ rb) : EvR K W (tCB (fun xs H Q => ∃ i j, xs = [.int i, .int j] ∧ Q (.int (if j > i then j else i)) H) (tCons ta (tCons tb tNil))) ρ (ra.bind fun a => rb.bind fun b => .ok (max a b)) := er_cb2 (fun a b c h => by cases h; exact rc_max2) (fun _ _ _ h => nomatch h) ha hb
theorem er_sum {ra : Res (List Int)} (ha : EvR K W ta ρ ra) : EvR K W (tCB (rSum K) (tCons ta tNil)) ρ (ra.bind fun a => .ok a.sum) := er_cb1 (fun t c h => by
  cases h
  have q := rc_sum (K := K) (ns := t)
  rw [en_lst]
  exact q) (fun _ _ h => nomatch h) ha
theorem foldl_min : ∀ (l : List Int) (x : Int), l.foldl min x ∈ x :: l ∧ ∀ y ∈ x :: l, l.foldl min x ≤ y
  | [], x => ⟨List.mem_cons_self, fun y hy => by rw [List.mem_singleton.mp hy]; exact Int.le_refl _⟩
  | z :: l, x => by
    obtain ⟨h1, h2⟩ := foldl_min l (min x z)
    refine ⟨?_, fun y hy => ?_⟩
    · rcases List.mem_cons.mp h1 with h | h
      · show l.foldl min (min x z) ∈ _
        rw [h]
        rcases Int.le_total x z with q | q
        · rw [Int.min_eq_left q]; exact List.mem_cons_self
        · rw [Int.min_eq_right q]; exact List.mem_cons_of_mem _ List.mem_cons_self
      · exact List.mem_cons_of_mem _ (List.mem_cons_of_mem _ h)
    · have h0 := h2 (min x z) List.mem_cons_self
      rcases List.mem_cons.mp hy with rfl | hy
      · exact Int.le_trans h0 (Int.min_le_left _ _)
      · rcases List.mem_cons.mp hy with rfl | hy
        · exact Int.le_trans h0 (Int.min_le_right _ _)
        · exact h2 y (List.mem_cons_of_mem _ hy)
theorem foldl_max : ∀ (l : List Int) (x : Int), l.foldl max x ∈ x :: l ∧ ∀ y ∈ x :: l, y ≤ l.foldl max x
  | [], x => ⟨List.mem_cons_self, fun y hy => by rw [List.mem_singleton.mp hy]; exact Int.le_refl _⟩
  | z :: l, x => by
    obtain ⟨h1, h2⟩ := foldl_max l (max x z)
    refine ⟨?_, fun y hy => ?_⟩
    · rcases List.mem_cons.mp h1 with h | h
      · show l.foldl max (max x z) ∈ _
        rw [h]
        rcases Int.le_total x z with q | q
        · rw [Int.max_eq_right q]; exact List.mem_cons_of_mem _ List.mem_cons_self
        · rw [Int.max_eq_left q]; exact List.mem_cons_self
      · exact List.mem_cons_of_mem _ (List.mem_cons_of_mem _ h)
    · have h0 := h2 (max x z) List.mem_cons_self
      rcases List.mem_cons.mp hy with rfl | hy
      · exact Int.le_trans (Int.le_max_left _ _) h0
      · rcases List.mem_cons.mp hy with rfl | hy
        · exact Int.le_trans (Int.le_max_right _ _) h0
        · exact h2 y (List.mem_cons_of_mem _ hy)
theorem er_min {ra : Res (List Int)} (ha : EvR K W ta ρ ra) : EvR K W (tCB (rMin K) (tCons ta tNil)) ρ (ra.bind fun a => minL a) := er_cb1 (fun t c h => by
  cases t with
  | nil => cases h
  | cons x l =>
    cases h
    rw [en_lst]
    exact rc_min (foldl_min l x).1 (foldl_min l x).2) (fun t z h => by cases t <;> cases h) ha
theorem er_max {ra : Res (List Int)} (ha : EvR K W ta ρ ra) : EvR K W (tCB (rMax K) (tCons ta tNil)) ρ (ra.bind fun a => maxL a) := er_cb1 (fun t c h => by
  cases t with
  | nil => cases h
  | cons x l =>
    cases h
    rw [en_lst]
    exact rc_max (foldl_max l x).1 (foldl_max l x).2) (fun t z h => by cases t <;> cases h) ha
theorem eo_sorted {ra : Res (List Int)} (ha : EvR K W ta ρ ra) : EoR K W (tCB (rSortedI K) (tCons ta tNil)) ρ (ra.bind fun a => .ok (sortI a)) := eo_cb1 (fun t c h => by
  cases h
  rw [en_lst]
  have h1 : (sortI t).Perm t := List.mergeSort_perm t _
  have h2 : (sortI t).Pairwise (· ≤ ·) := by
    have := List.pairwise_mergeSort (le := fun a b : Int => decide (a ≤ b)) (fun a b c h1 h2 => by simp at *; omega) (fun a b => by simp; omega) t
    exact this.imp fun h => by simpa using h
  exact rco_sorted h1 h2) (fun _ _ h => nomatch h) ha
theorem er_any {ra : Res (List Bool)} (ha : EvR K W ta ρ ra) : EvR K W (tCB (rAny K) (tCons ta tNil)) ρ (ra.bind fun a => .ok (a.any id)) := er_cb1 (fun t c h => by
  cases h
  rw [en_lst]
  exact rc_any) (fun _ _ h => nomatch h) ha
theorem er_all {ra : Res (List Bool)} (ha : EvR K W ta ρ ra) : EvR K W (tCB (rAll K) (tCons ta tNil)) ρ (ra.bind fun a => .ok (a.all id)) := er_cb1 (fun t c h => by
  cases h
  rw [en_lst]
  exact rc_all) (fun _ _ h => nomatch h) ha
theorem eo_list [Py α] {ra : Res (List α)} (ha : EvR K W ta ρ ra) : EoR K W (tCB (rListA K) (tCons ta tNil)) ρ ra := by
  have q := eo_cb1 (K := K) (W := W) (ρ := ρ) (ta := ta) (r := rListA K) (g := fun i : List α => .ok i) (fun t c h => by cases h; rw [en_lst]; exact rco_list) (fun _ _ h => nomatch h) ha
  refine eo_is q ?_
  cases ra <;> rfl
theorem eo_listU [Py α] {ra : Res (Tu α)} (ha : EvR K W ta ρ ra) : EoR K W (tCB (rListA K) (tCons ta tNil)) ρ (ra.bind fun t => .ok t.l) := eo_cb1 (fun t c h => by cases h; rw [en_tu]; exact rco_listT) (fun _ _ h => nomatch h) ha
theorem eo_listD {ra : Res Dy} (ha : EvR K W ta ρ ra) : EoR K W (tCB (rListA K) (tCons ta tNil)) ρ (ra.bind fun t => itD t) := eo_cb1 (fun t c h => by
  cases t with
  | lst l =>
    cases h
    show RcO K _ [.lst (enL _)] _
    rw [enL_map]
    exact rco_list
  | _ => cases h) (fun t z h => by cases t <;> cases h) ha
theorem eo_listRange {ra : Res Int} (ha : EvR K W ta ρ ra) : EoR K W (tCB rListRng (tCons (tCB rRng1 (tCons ta tNil)) tNil)) ρ (ra.bind fun n => listRange n) := by
  cases ra with
  | ok n =>
    show EoR K W _ ρ (listRange n)
    unfold listRange
    split
    · rename_i h
      have q := evo_rng (K := K) (ρ := ρ) (ea_cons ha ea_nil) h.1 h.2
      refine EvO.is q ?_
      show rng 0 n.toNat = _
      unfold rng
      rw [List.map_map]
      refine List.map_congr_left fun k _ => ?_
      show D.int (0 + (k : Int)) = D.int (k : Int)
      rw [Int.zero_add]
    · trivial
  | ex z => exact ez_cb (eza_here (ez_cb (eza_here ha)))
  | no => trivial
theorem er_in {ra : Res Int} {rb : Res (List Int)} (ha : EvR K W ta ρ ra) (hb : EvR K W tb ρ rb) : EvR K W (tOp (rIn K false) ta tb) ρ (ra.bind fun a => rb.bind fun b => .ok (decide (a ∈ b))) := er_op (fun a b c h => by cases h; rw [en_lst]; exact rv_in) (fun _ _ _ h => nomatch h) ha hb
theorem er_notin {ra : Res Int} {rb : Res (List Int)} (ha : EvR K W ta ρ ra) (hb : EvR K W tb ρ rb) : EvR K W (tOp (rIn K true) ta tb) ρ (ra.bind fun a => rb.bind fun b => .ok (!decide (a ∈ b))) := er_op (fun a b c h => by cases h; rw [en_lst]; exact rv_notin) (fun _ _ _ h => nomatch h) ha hb
/-! isinstance -/
theorem er_isi_int {ra : Res Dy} (ha : EvR K W ta ρ ra) : EvR K W (tCB (rIsi K) (tCons ta (tCons (tC (.ty "int")) tNil))) ρ (ra.bind fun d => isI isInt d) := by
  cases ra with
  | ok d => cases d <;> first | trivial | exact ev_cb (ea_cons ha (ea_cons ev_ty ea_nil)) (rc_isi (r := _) rfl (by simp only [isInt, isBool, isStr, isTup, isLst]; decide +kernel))
  | ex z => exact ez_cb (eza_here ha)
  | no => trivial
theorem er_isi_bool {ra : Res Dy} (ha : EvR K W ta ρ ra) : EvR K W (tCB (rIsi K) (tCons ta (tCons (tC (.ty "bool")) tNil))) ρ (ra.bind fun d => isI isBool d) := by
  cases ra with
  | ok d => cases d <;> first | trivial | exact ev_cb (ea_cons ha (ea_cons ev_ty ea_nil)) (rc_isi (r := _) rfl (by simp only [isInt, isBool, isStr, isTup, isLst]; decide +kernel))
  | ex z => exact ez_cb (eza_here ha)
  | no => trivial
theorem er_isi_str {ra : Res Dy} (ha : EvR K W ta ρ ra) : EvR K W (tCB (rIsi K) (tCons ta (tCons (tC (.ty "str")) tNil))) ρ (ra.bind fun d => isI isStr d) := by
  cases ra with
  | ok d => cases d <;> first | trivial | exact ev_cb (ea_cons ha (ea_cons ev_ty ea_nil)) (rc_isi (r := _) rfl (by simp only [isInt, isBool, isStr, isTup, isLst]; decide +kernel))
  | ex z => exact ez_cb (eza_here ha)
  | no => trivial
theorem er_isi_tuple {ra : Res Dy} (ha : EvR K W ta ρ ra) : EvR K W (tCB (rIsi K) (tCons ta (tCons (tC (.ty "tuple")) tNil))) ρ (ra.bind fun d => isI isTup d) := by
  cases ra with
  | ok d => cases d <;> first | trivial | exact ev_cb (ea_cons ha (ea_cons ev_ty ea_nil)) (rc_isi (r := _) rfl (by simp only [isInt, isBool, isStr, isTup, isLst]; decide +kernel))
  | ex z => exact ez_cb (eza_here ha)
  | no => trivial
theorem er_isi_list {ra : Res Dy} (ha : EvR K W ta ρ ra) : EvR K W (tCB (rIsi K) (tCons ta (tCons (tC (.ty "list")) tNil))) ρ (ra.bind fun d => isI isLst d) := by
  cases ra with
  | ok d => cases d <;> first | trivial | exact ev_cb (ea_cons ha (ea_cons ev_ty ea_nil)) (rc_isi (r := _) rfl (by simp only [isInt, isBool, isStr, isTup, isLst]; decide +kernel))
  | ex z => exact ez_cb (eza_here ha)
  | no => trivial
/-! a if c else b -/
theorem er_ife [Enc α] {rc : Res Bool} {ra rb : Res α} (hc : EtR K W tt ρ rc) (ha : EvR K W ta ρ ra) (hb : EvR K W tb ρ rb) : EvR K W (tIf tt ta tb) ρ (iteR rc ra rb) := by
  cases rc with
  | ok c =>
    cases c with
    | true =>
      show EvR K W _ ρ ra
      cases ra with
      | ok a => exact ev_if hc (fun _ => ha) (fun h => nomatch h)
      | ex z => exact fun M T0 H T σ X Q e q => (hc : EvT K tt ρ true) M T0 H T σ X _ e fun H1 T1 s1 t1 e1 => (ha : EvZ K W ta ρ (enX z)) M T0 H1 T1 σ X _ e1 fun od H' T' s' t' e' hx => q od H' T' (s1.trans s') (t1.trans t') e' (hx.dn t1)
      | no => trivial
    | false =>
      show EvR K W _ ρ rb
      cases rb with
      | ok a => exact ev_if hc (fun h => nomatch h) (fun _ => hb)
      | ex z => exact fun M T0 H T σ X Q e q => (hc : EvT K tt ρ false) M T0 H T σ X _ e fun H1 T1 s1 t1 e1 => (hb : EvZ K W tb ρ (enX z)) M T0 H1 T1 σ X _ e1 fun od H' T' s' t' e' hx => q od H' T' (s1.trans s') (t1.trans t') e' (hx.dn t1)
      | no => trivial
  | ex z => exact fun M T0 H T σ X Q e q => hc M T0 H T σ X _ e q
  | no => trivial
/-! truth values as values -/
theorem er_notV {ra : Res Bool} (ha : EvR K W ta ρ ra) : EvR K W (tNotV ta) ρ (ra.bind fun b => .ok (!b)) := by
  cases ra with
  | ok a => exact ev_notV ha
  | ex z => exact fun M T0 H T σ X Q e q => ha M T0 H T σ X _ e q
  | no => trivial
theorem er_andP {a b : Bool} (h1 : EvR K W ta ρ (.ok a)) (h2 : EvR K W tb ρ (.ok b)) : EvR K W (tAndV ta tb) ρ (.ok (a && b)) := ev_andV h1 fun _ => h2
theorem er_orP {a b : Bool} (h1 : EvR K W ta ρ (.ok a)) (h2 : EvR K W tb ρ (.ok b)) : EvR K W (tOrV ta tb) ρ (.ok (a || b)) := ev_orV h1 fun _ => h2
theorem er_andR {a b : Res Bool} (h1 : EvR K W ta ρ a) (h2 : EvR K W tb ρ b) : EvR K W (tAndV ta tb) ρ (andR a b) := by
  cases a with
  | ok x =>
    cases x with
    | false => exact (ev_andV (b := false) h1 (fun h => nomatch h) : EvD K (tAndV ta tb) ρ (.bl (false && false)))
    | true =>
      show EvR K W _ ρ b
      cases b with
      | ok y => exact (ev_andV h1 fun _ => h2 : EvD K (tAndV ta tb) ρ (.bl (true && y)))
      | ex z => exact fun M T0 H T σ X Q e q => (h1 : EvD K ta ρ (.bl true)) M T0 H T σ X _ e fun v H1 T1 s1 t1 e1 i1 => ⟨true, i1, (h2 : EvZ K W tb ρ (enX z)) M T0 H1 T1 σ X _ e1 fun od H' T' s' t' e' hx => q od H' T' (s1.trans s') (t1.trans t') e' (hx.dn t1)⟩
      | no => trivial
  | ex z => exact fun M T0 H T σ X Q e q => h1 M T0 H T σ X _ e q
  | no => trivial
theorem er_orR {a b : Res Bool} (h1 : EvR K W ta ρ a) (h2 : EvR K W tb ρ b) : EvR K W (tOrV ta tb) ρ (orR a b) := by
  cases a with
  | ok x =>
    cases x with
    | true => exact (ev_orV (b := false) h1 (fun h => nomatch h) : EvD K (tOrV ta tb) ρ (.bl (true || false)))
    | false =>
      show EvR K W _ ρ b
      cases b with
      | ok y => exact (ev_orV h1 fun _ => h2 : EvD K (tOrV ta tb) ρ (.bl (false || y)))
      | ex z => exact fun M T0 H T σ X Q e q => (h1 : EvD K ta ρ (.bl false)) M T0 H T σ X _ e fun v H1 T1 s1 t1 e1 i1 => ⟨false, i1, (h2 : EvZ K W tb ρ (enX z)) M T0 H1 T1 σ X _ e1 fun od H' T' s' t' e' hx => q od H' T' (s1.trans s') (t1.trans t') e' (hx.dn t1)⟩
      | no => trivial
  | ex z => exact fun M T0 H T σ X Q e q => h1 M T0 H T σ X _ e q
  | no => trivial
end
end FS
set_option Elab.async false
set_option linter.all false
set_option maxRecDepth 100000
set_option maxHeartbeats 4000000
set_option exponentiation.threshold 20000
/-! Comprehensions, what is lent, statements. -/
namespace FS
open PySem PySem.Spec PyProof.Rows L2
open Py (dy un)
open Enc (en)
open EncA (ea)

section
variable [Cm] {K : PySem.W.Frag} {W : L2.WX} {ρ ρ' : Rho} {te ta tb tc : TE} {tt tu : TT} {tr : TA} {wi : TI} {g : TG} {i j : Nat} {α β γ τ : Type}
/-! what is walked -/
def EvZI (K : PySem.W.Frag) (W : L2.WX) (wi : TI) (ρ : Rho) (z : Exn) : Prop := ∀ (M : Op) (T0 H T : Hp) (σ : L2.St) (X : Op) (R : It → Hp → Prop), EnX K M T0 H T σ ρ X → (∀ od H' T', Same H H' → Same T T' → EnX K M T0 H' T' σ ρ X → IsX K T H' od z.2.1 z.2.2 → W z.1 od σ T') → wi σ T R
def SrR (K : PySem.W.Frag) (W : L2.WX) [Enc α] (wi : TI) (ρ : Rho) : Res (List α) → Prop
  | .ok l => SrcD K wi ρ (l.map en)
  | .ex z => EvZI K W wi ρ (enX z)
  | .no => True
/-- .. where nothing is changed meanwhile -/
def SwR (K : PySem.W.Frag) (W : L2.WX) [Enc α] (wi : TI) (ρ : Rho) : Res (List α) → Prop
  | .ok l => SrcW K wi ρ (l.map en)
  | .ex z => EvZI K W wi ρ (enX z)
  | .no => True
theorem sw_d [Enc α] {r : Res (List α)} (h : SrR K W wi ρ r) : SwR K W wi ρ r := by
  cases r with
  | ok l => exact SrcD.w h
  | ex z => exact h
  | no => trivial
theorem sr_l [Py α] {r : Res (List α)} (h : EvR K W ta ρ r) : SrR K W (iList K ta) ρ r := by
  cases r with
  | ok l =>
    have h : EvD K ta ρ (en l) := h
    rw [en_lst] at h
    exact src_list h
  | ex z => exact fun M T0 H T σ X R e q => h M T0 H T σ X _ e q
  | no => trivial
theorem sr_u [Py α] {r : Res (Tu α)} (h : EvR K W ta ρ r) : SrR K W (iTup K ta) ρ (r.bind fun t => .ok t.l) := by
  cases r with
  | ok l =>
    have h : EvD K ta ρ (en l) := h
    rw [en_tu] at h
    exact src_tup h
  | ex z => exact fun M T0 H T σ X R e q => h M T0 H T σ X _ e q
  | no => trivial
theorem sr_dy {r : Res Dy} (h : EvR K W ta ρ r) : SrR K W (iList K ta) ρ (r.bind fun t => itD t) := by
  cases r with
  | ok d =>
    cases d with
    | lst l =>
      have h : EvD K ta ρ (.lst (enL l)) := h
      rw [enL_map] at h
      exact src_list h
    | _ => trivial
  | ex z => exact fun M T0 H T σ X R e q => h M T0 H T σ X _ e q
  | no => trivial
theorem sr_c {r : Res Scr} (h : EvR K W ta ρ r) : SrR K W (iList K ta) ρ (r.bind fun t => .ok t.ns) := by
  cases r with
  | ok l => exact src_scr h
  | ex z => exact fun M T0 H T σ X R e q => h M T0 H T σ X _ e q
  | no => trivial
theorem sr_r1 {r : Res Int} (h : EvR K W ta ρ r) : SrR K W (iRng1 (tCons ta tNil)) ρ (r.bind fun n => range1 n) := by
  cases r with
  | ok n =>
    show SrR K W _ ρ (range1 n)
    unfold range1
    split
    · rename_i hp
      have q := src_rng1 (K := K) (ρ := ρ) (ea_cons h ea_nil) hp
      show SrcD K _ ρ _
      rw [List.map_map]
      have e : rng 0 n.toNat = (List.range n.toNat).map ((fun a : Int => (en a : D)) ∘ fun k : Nat => (k : Int)) := by
        unfold rng
        refine List.map_congr_left fun k _ => ?_
        show D.int (0 + (k : Int)) = D.int (k : Int)
        rw [Int.zero_add]
      rw [← e]
      exact q
    · trivial
  | ex z => exact fun M T0 H T σ X R e q => h M T0 H T σ X _ e q
  | no => trivial
theorem sr_r2 {ra rb : Res Int} (ha : EvR K W ta ρ ra) (hb : EvR K W tb ρ rb) : SrR K W (iRng2 (tCons ta (tCons tb tNil))) ρ (ra.bind fun a => rb.bind fun b => range2 a b) := by
  cases ra with
  | ok a =>
    cases rb with
    | ok b =>
      show SrR K W _ ρ (range2 a b)
      unfold range2
      split
      · rename_i hp
        have q := src_rng2 (K := K) (ρ := ρ) (ea_cons ha (ea_cons hb ea_nil)) hp
        show SrcD K _ ρ _
        rw [List.map_map]
        exact q
      · trivial
    | ex z => exact fun M T0 H T σ X R e q => ha M T0 H T σ X _ e fun v H1 T1 s1 t1 e1 i1 => hb M T0 H1 T1 σ X _ e1 fun od H' T' s' t' e' hx => q od H' T' (s1.trans s') (t1.trans t') e' (hx.dn t1)
    | no => trivial
  | ex z => exact fun M T0 H T σ X R e q => ha M T0 H T σ X _ e q
  | no => trivial
/-! targets -/
/-- the target g binds a: slots and values -/
def TgR (K : PySem.W.Frag) [Enc α] (g : TG) (as : α → List (Nat × D)) : Prop := ∀ a, GDs K g (en a) (as a)
theorem tg_n [Enc α] : TgR K (gName j) (fun a : α => [(j, en a)]) := fun _ => gd_name
theorem tg_2 [Py α] [Py β] : TgR K (gTup K 2 (gCons (gName i) (gCons (gName j) gNil))) (fun p : α × β => [(i, en p.1), (j, en p.2)]) := fun _ => gd_tup2
theorem tg_3 [Py α] [Py β] [Py γ] {k : Nat} : TgR K (gTup K 3 (gCons (gName i) (gCons (gName j) (gCons (gName k) gNil)))) (fun p : P3 α β γ => [(i, en p.a), (j, en p.b), (k, en p.c)]) := fun _ => gd_tup3
theorem tg_12 [Py α] [Py β] [Py γ] {k : Nat} : TgR K (gTup K 2 (gCons (gName i) (gCons (gTup K 2 (gCons (gName j) (gCons (gName k) gNil))) gNil))) (fun p : α × (β × γ) => [(i, en p.1), (j, en p.2.1), (k, en p.2.2)]) := fun _ => gd_tup (gt_cons gd_name (gt_cons gd_tup2 gt_nil)) rfl
/-! comprehensions -/
def Wp (ρ : Rho) (vs : List Nat) : Prop := ∀ i ∈ vs, isOw ρ[i]? = false
theorem mapR_ok {f : α → Res β} : ∀ {l : List α} {m : List β}, mapR f l = .ok m → (∀ x ∈ l, ∃ y, f x = .ok y) ∧ ∀ g : β → D, m.map g = l.map fun x => match f x with | .ok y => g y | _ => .non
  | [], m, h => by cases h; exact ⟨fun x hx => (nomatch hx), fun _ => rfl⟩
  | x :: l, m, h => by
    rw [mapR] at h
    cases e : f x with
    | no => rw [e] at h; cases h
    | ex z => rw [e] at h; cases h
    | ok y =>
      rw [e] at h
      cases e2 : mapR f l with
      | no => rw [e2] at h; cases h
      | ex z => rw [e2] at h; cases h
      | ok m' =>
        rw [e2] at h
        cases h
        obtain ⟨h1, h2⟩ := mapR_ok e2
        refine ⟨fun z hz => ?_, fun d => ?_⟩
        · rcases List.mem_cons.mp hz with rfl | hz
          · exact ⟨y, e⟩
          · exact h1 z hz
        · rw [List.map_cons, List.map_cons, e, ← h2 d]
theorem mapIfR_ok {c : α → Res Bool} {f : α → Res β} : ∀ {l : List α} {m : List β}, mapIfR c f l = .ok m → (∀ x ∈ l, ∃ b, c x = .ok b ∧ (b = true → ∃ y, f x = .ok y)) ∧ ∀ g : β → D, m.map g = (l.filter fun x => match c x with | .ok b => b | _ => false).map fun x => match f x with | .ok y => g y | _ => .non
  | [], m, h => by cases h; exact ⟨fun x hx => (nomatch hx), fun _ => rfl⟩
  | x :: l, m, h => by
    rw [mapIfR] at h
    cases ec : c x with
    | no => rw [ec] at h; cases h
    | ex z => rw [ec] at h; cases h
    | ok b =>
      rw [ec] at h
      cases b with
      | false =>
        obtain ⟨h1, h2⟩ := mapIfR_ok (show mapIfR c f l = .ok m from h)
        refine ⟨fun z hz => ?_, fun d => ?_⟩
        · rcases List.mem_cons.mp hz with rfl | hz
          · exact ⟨false, ec, fun h => nomatch h⟩
          · exact h1 z hz
        · rw [List.filter_cons, ec, if_neg (by decide), ← h2 d]
      | true =>
        cases e : f x with
        | no => rw [e] at h; cases h
        | ex z => rw [e] at h; cases h
        | ok y =>
          rw [e] at h
          cases e2 : mapIfR c f l with
          | no => rw [e2] at h; cases h
          | ex z => rw [e2] at h; cases h
          | ok m' =>
            rw [e2] at h
            cases h
            obtain ⟨h1, h2⟩ := mapIfR_ok e2
            refine ⟨fun z hz => ?_, fun d => ?_⟩
            · rcases List.mem_cons.mp hz with rfl | hz
              · exact ⟨true, ec, fun _ => ⟨y, e⟩⟩
              · exact h1 z hz
            · rw [List.filter_cons, ec, if_pos rfl, List.map_cons, List.map_cons, e, ← h2 d]
theorem mapIfR_ex {c : α → Res Bool} {f : α → Res β} {z : Xn} : ∀ {l : List α}, mapIfR c f l ≠ .ex z
  | [], h => by cases h
  | x :: l, h => by
    rw [mapIfR] at h
    cases ec : c x with
    | no => rw [ec] at h; cases h
    | ex z => rw [ec] at h; cases h
    | ok b =>
      rw [ec] at h
      cases b with
      | false => exact mapIfR_ex (show mapIfR c f l = .ex z from h)
      | true =>
        cases e : f x with
        | no => rw [e] at h; cases h
        | ex z => rw [e] at h; cases h
        | ok y =>
          rw [e] at h
          cases e2 : mapIfR c f l with
          | no => rw [e2] at h; cases h
          | ex z => exact mapIfR_ex e2
          | ok m' => rw [e2] at h; cases h
theorem mapR_ex {f : α → Res β} {z : Xn} : ∀ {l : List α}, mapR f l ≠ .ex z
  | [], h => by cases h
  | x :: l, h => by
    rw [mapR] at h
    cases e : f x with
    | no => rw [e] at h; cases h
    | ex z => rw [e] at h; cases h
    | ok y =>
      rw [e] at h
      cases e2 : mapR f l with
      | no => rw [e2] at h; cases h
      | ex z => exact mapR_ex e2
      | ok m' => rw [e2] at h; cases h
theorem eo_lcP [Enc α] [Enc β] {rs : Res (List α)} {f : α → β} {as : α → List (Nat × D)} {vs : List Nat} (hs : SwR K W wi ρ rs) (hg : TgR K g as) (hw : Wp ρ vs) (hvs : ∀ a, ∀ i ∈ (as a).map (·.1), i ∈ vs) (h : ∀ a, EvR K W te (setD (wipeD ρ vs) (as a)) (.ok (f a))) :
    EoR K W (tLc wi g tYes te vs) ρ (rs.bind fun l => mapP l f) := by
  cases rs with
  | ok l =>
    show EoR K W _ ρ (mapP l f)
    unfold mapP
    split
    · rename_i hl
      show EvO K _ ρ ((l.map f).map en)
      rw [List.map_map]
      exact evo_mapW (xs := l) (enc := en) (fun a => en (f a)) hs hw (fun a ha => ⟨as a, hg a, hvs a, h a⟩) hl
    · trivial
  | ex z => exact fun M T0 H T σ X Q e q => hs M T0 H T σ X _ e q
  | no => trivial
theorem eo_lcR [Enc α] [Enc β] {rs : Res (List α)} {f : α → Res β} {as : α → List (Nat × D)} {vs : List Nat} (hs : SwR K W wi ρ rs) (hg : TgR K g as) (hw : Wp ρ vs) (hvs : ∀ a, ∀ i ∈ (as a).map (·.1), i ∈ vs) (h : ∀ a, EvR K W te (setD (wipeD ρ vs) (as a)) (f a)) :
    EoR K W (tLc wi g tYes te vs) ρ (rs.bind fun l => mapL l f) := by
  cases rs with
  | ok l =>
    show EoR K W _ ρ (mapL l f)
    unfold mapL
    split
    · rename_i hl
      cases e : mapR f l with
      | no => trivial
      | ex z => exact (mapR_ex e).elim
      | ok m =>
        obtain ⟨h1, h2⟩ := mapR_ok e
        show EvO K _ ρ (m.map en)
        rw [h2 en]
        refine evo_mapW (xs := l) (enc := en) _ hs hw (fun a ha => ⟨as a, hg a, hvs a, ?_⟩) hl
        obtain ⟨y, e3⟩ := h1 a ha
        have h3 := h a
        rw [e3] at h3 ⊢
        exact h3
    · trivial
  | ex z => exact fun M T0 H T σ X Q e q => hs M T0 H T σ X _ e q
  | no => trivial
theorem ec_lcR [Enc α] [Py β] {rs : Res (List α)} {f : α → Res β} {as : α → List (Nat × D)} {vs : List Nat} (hs : SwR K W wi ρ rs) (hg : TgR K g as) (hw : Wp ρ vs) (hvs : ∀ a, ∀ i ∈ (as a).map (·.1), i ∈ vs) (h : ∀ a, EcR K W te (setD (wipeD ρ vs) (as a)) (f a)) :
    EcR K W (tLc wi g tYes te vs) ρ (rs.bind fun l => mapL l f) := by
  cases rs with
  | ok l =>
    show EcR K W _ ρ (mapL l f)
    unfold mapL
    split
    · rename_i hl
      cases e : mapR f l with
      | no => trivial
      | ex z => exact (mapR_ex e).elim
      | ok m =>
        obtain ⟨h1, h2⟩ := mapR_ok e
        show EvC K _ ρ (eo m)
        rw [eo_lis, h2 eo]
        have q := ec_lcW (tt := tYes) (g := g) (te := te) (vs := vs) (xs := l) (enc := en) (fun _ => true) (fun x => match f x with | .ok y => eo y | _ => D.non) hs hw (fun a ha => ⟨as a, hg a, hvs a, et_yes, fun _ => ?_⟩) hl
        · rw [List.filter_eq_self.mpr fun _ _ => rfl] at q
          exact q
        · obtain ⟨y, e3⟩ := h1 a ha
          have h3 := h a
          rw [e3] at h3 ⊢
          exact h3
    · trivial
  | ex z => exact fun M T0 H T σ X Q e q => hs M T0 H T σ X _ e q
  | no => trivial
theorem mapR_P {f : α → β} : ∀ l : List α, mapR (fun a => .ok (f a)) l = .ok (l.map f)
  | [] => rfl
  | x :: l => by rw [mapR, mapR_P l]; rfl
theorem ec_lcP [Enc α] [Py β] {rs : Res (List α)} {f : α → β} {as : α → List (Nat × D)} {vs : List Nat} (hs : SwR K W wi ρ rs) (hg : TgR K g as) (hw : Wp ρ vs) (hvs : ∀ a, ∀ i ∈ (as a).map (·.1), i ∈ vs) (h : ∀ a, EcR K W te (setD (wipeD ρ vs) (as a)) (.ok (f a))) :
    EcR K W (tLc wi g tYes te vs) ρ (rs.bind fun l => mapP l f) := by
  have q := ec_lcR (f := fun a => .ok (f a)) hs hg hw hvs h
  refine ec_isR q ?_
  cases rs with
  | ok l =>
    show mapL l _ = mapP l f
    unfold mapL mapP
    rw [mapR_P]
  | ex z => rfl
  | no => rfl
theorem eo_lcIf [Enc α] [Enc β] {rs : Res (List α)} {c : α → Res Bool} {f : α → Res β} {as : α → List (Nat × D)} {vs : List Nat} (hs : SwR K W wi ρ rs) (hg : TgR K g as) (hw : Wp ρ vs) (hvs : ∀ a, ∀ i ∈ (as a).map (·.1), i ∈ vs)
    (hc : ∀ a, EtR K W tt (setD (wipeD ρ vs) (as a)) (c a)) (h : ∀ a, EvR K W te (setD (wipeD ρ vs) (as a)) (f a)) :
    EoR K W (tLc wi g tt te vs) ρ (rs.bind fun l => mapIf l c f) := by
  cases rs with
  | ok l =>
    show EoR K W _ ρ (mapIf l c f)
    unfold mapIf
    split
    · rename_i hl
      cases e : mapIfR c f l with
      | no => trivial
      | ex z => exact (mapIfR_ex e).elim
      | ok m =>
        obtain ⟨h1, h2⟩ := mapIfR_ok e
        show EvO K _ ρ (m.map en)
        rw [h2 en]
        refine evo_lcW (xs := l) (enc := en) _ _ hs hw (fun a ha => ⟨as a, hg a, hvs a, ?_, fun q => ?_⟩) hl
        · obtain ⟨b, e3, _⟩ := h1 a ha
          have h3 := hc a
          rw [e3] at h3 ⊢
          exact h3
        · obtain ⟨b, e3, e4⟩ := h1 a ha
          rw [e3] at q
          obtain ⟨y, e5⟩ := e4 q
          have h3 := h a
          rw [e5] at h3 ⊢
          exact h3
    · trivial
  | ex z => exact fun M T0 H T σ X Q e q => hs M T0 H T σ X _ e q
  | no => trivial
theorem ec_lcIf [Enc α] [Py β] {rs : Res (List α)} {c : α → Res Bool} {f : α → Res β} {as : α → List (Nat × D)} {vs : List Nat} (hs : SwR K W wi ρ rs) (hg : TgR K g as) (hw : Wp ρ vs) (hvs : ∀ a, ∀ i ∈ (as a).map (·.1), i ∈ vs)
    (hc : ∀ a, EtR K W tt (setD (wipeD ρ vs) (as a)) (c a)) (h : ∀ a, EcR K W te (setD (wipeD ρ vs) (as a)) (f a)) :
    EcR K W (tLc wi g tt te vs) ρ (rs.bind fun l => mapIf l c f) := by
  cases rs with
  | ok l =>
    show EcR K W _ ρ (mapIf l c f)
    unfold mapIf
    split
    · rename_i hl
      cases e : mapIfR c f l with
      | no => trivial
      | ex z => exact (mapIfR_ex e).elim
      | ok m =>
        obtain ⟨h1, h2⟩ := mapIfR_ok e
        show EvC K _ ρ (eo m)
        rw [eo_lis, h2 eo]
        refine ec_lcW (xs := l) (enc := en) _ _ hs hw (fun a ha => ⟨as a, hg a, hvs a, ?_, fun q => ?_⟩) hl
        · obtain ⟨b, e3, _⟩ := h1 a ha
          have h3 := hc a
          rw [e3] at h3 ⊢
          exact h3
        · obtain ⟨b, e3, e4⟩ := h1 a ha
          rw [e3] at q
          obtain ⟨y, e5⟩ := e4 q
          have h3 := h a
          rw [e5] at h3 ⊢
          exact h3
    · trivial
  | ex z => exact fun M T0 H T σ X Q e q => hs M T0 H T σ X _ e q
  | no => trivial
/-! what is lent -/
inductive Frz : Rho → Rho → Prop
  | nil : Frz [] []
  | no {ρ ρ' : Rho} : Frz ρ ρ' → Frz (.no :: ρ) (.no :: ρ')
  | im {ρ ρ' : Rho} {d : D} : Frz ρ ρ' → Frz (.im d :: ρ) (.im d :: ρ')
  | cl {ρ ρ' : Rho} {α : Type} [Py α] {a : α} : Frz ρ ρ' → Frz (.cl (eo a) :: ρ) (.im (en a) :: ρ')
  | ow {ρ ρ' : Rho} {α : Type} [Py α] {l : List α} : Frz ρ ρ' → Frz (.ow (l.map en) :: ρ) (.im (en l) :: ρ')
  | slf {ρ ρ' : Rho} {a C : Addr} {ns : List Str} {l : List Dy} : Frz ρ ρ' → Frz (.cl (.slf a C ns (eoL l)) :: ρ) (.im (.ins C ns (enL l)) :: ρ')
  | lsa {ρ ρ' : Rho} {a : Addr} {α : Type} [Py α] {l : List α} : Frz ρ ρ' → Frz (.cl (.lsa a (l.map eo)) :: ρ) (.im (en l) :: ρ')
theorem erL_enM {α : Type} [Py α] (l : List α) : D.erL (l.map en) = l.map en := by
  have h := erL_en (l.map dy)
  rw [enL_map, List.map_map] at h
  exact h
theorem Frz.eq {ρ ρ' : Rho} (h : Frz ρ ρ') : ρ.map frz = ρ' := by
  induction h with
  | nil => rfl
  | no _ ih => rw [List.map_cons, ih]; rfl
  | im _ ih => rw [List.map_cons, ih]; rfl
  | @cl ρ ρ' α _ a _ ih =>
    rw [List.map_cons, ih]
    show Sl.im (eo a : D).er :: ρ' = _
    rw [er_o]
  | ow _ ih =>
    rw [List.map_cons, ih, en_lst]
    rfl
  | @slf ρ ρ' a C ns l _ ih =>
    rw [List.map_cons, ih]
    show Sl.im (.ins C ns (D.erL (eoL l))) :: ρ' = _
    rw [erL_eo]
  | @lsa ρ ρ' a α _ l _ ih =>
    rw [List.map_cons, ih, en_lst]
    show Sl.im (.lst (D.erL (l.map eo))) :: ρ' = _
    rw [erL_oM]
theorem sc_exn {z : Xn} (h : z.2.all Dy.sc = true) : ∀ d ∈ (enX z).2.2, d.sc = true := by
  intro d hd
  obtain ⟨x, hx, rfl⟩ := List.mem_map.mp (List.mem_reverse.mp hd)
  exact sc_en (List.all_eq_true.mp h x hx)
theorem er_lent [Py α] {r : Res α} (hf : Frz ρ ρ') (h : EvR K W te ρ' r) : EvR K W te ρ (scG r) := by
  have e := hf.eq
  cases r with
  | ok a =>
    by_cases hs : (dy a).lf = true
    · rw [scG_ok, if_pos hs]
      exact ed_lentQ e h (lf_en hs)
    · rw [scG_ok, if_neg hs]
      trivial
  | ex z =>
    show EvR K W te ρ (if z.2.all Dy.sc then .ex z else .no)
    by_cases hs : z.2.all Dy.sc = true
    · rw [if_pos hs]
      exact ez_lentTo e h (sc_exn hs)
    · rw [if_neg hs]
      trivial
  | no => trivial
theorem er_lentS [Lf α] {r : Res α} (hf : Frz ρ ρ') (h : EvR K W te ρ' r) : EvR K W te ρ (exG r) := by
  have e := hf.eq
  cases r with
  | ok a => exact ed_lentQ e h (lf_en (Lf.lf a))
  | ex z =>
    show EvR K W te ρ (if z.2.all Dy.sc then .ex z else .no)
    by_cases hs : z.2.all Dy.sc = true
    · rw [if_pos hs]
      exact ez_lentTo e h (sc_exn hs)
    · rw [if_neg hs]
      trivial
  | no => trivial
theorem ec_lentR [Py α] {r : Res α} (hf : Frz ρ ρ') (h : EcR K W te ρ' r) : EcR K W te ρ (exG r) := by
  have e := hf.eq
  cases r with
  | ok a => exact ec_lentQ e h kq_e
  | ex z =>
    show EcR K W te ρ (if z.2.all Dy.sc then .ex z else .no)
    by_cases hs : z.2.all Dy.sc = true
    · rw [if_pos hs]
      exact ez_lentTo e h (sc_exn hs)
    · rw [if_neg hs]
      trivial
  | no => trivial
theorem et_lentR {r : Res Bool} (hf : Frz ρ ρ') (h : EtR K W tt ρ' r) : EtR K W tt ρ r.calm := by
  cases r with
  | ok b => exact et_lent (by rw [hf.eq]; exact h)
  | ex z => trivial
  | no => trivial
end
end FS
set_option Elab.async false
set_option linter.all false
set_option maxRecDepth 100000
set_option maxHeartbeats 4000000
set_option exponentiation.threshold 20000
/-! Statements. -/
namespace FS
open PySem PySem.Spec PyProof.Rows L2
open Py (dy un)
open Enc (en)
open EncA (ea)

section
variable [Cm] {S S1 S' L R : Type}
def post (k : R → Sl) (e : S → Rho) (eL : L → Rho) : Out S L R → Pst
  | .nx s => { nx := fun ρ' => ρ' = e s }
  | .rt r => { nx := fun _ => False, rt := fun v => v = k r }
  | .bk l => { nx := fun _ => False, bk := fun ρ' => ρ' = eL l }
  | .ct l => { nx := fun _ => False, ct := fun ρ' => ρ' = eL l }
  | .ex z => { nx := fun _ => False, ex := fun _ z' => z' = enX z }
  | .no => { nx := fun _ => False }
/-- the code ts, from ρ on, ends as o tells -/
def Wo (K : PySem.W.Frag) (W : L2.WX) (k : R → Sl) (ts : TS) (ρ : Rho) (e : S → Rho) (eL : L → Rho) (o : Out S L R) : Prop := o = .no ∨ Ws K W ts ρ (post k e eL o)
end
section
variable [Cm] {K : PySem.W.Frag} {W : L2.WX} {ρ ρ' : Rho} {te ta tb tc : TE} {tt tu : TT} {t u : TS} {tr : TA} {wi : TI} {g : TG} {i j : Nat} {α β γ τ S S1 S' L L' R : Type} {k : R → Sl} {e : S → Rho} {e1 : S1 → Rho} {eL : L → Rho}
theorem wo_no : Wo K W k t ρ e eL .no := .inl rfl
theorem wo_is {o o' : Out S L R} (h : Wo K W k t ρ e eL o) (q : o = o') : Wo K W k t ρ e eL o' := q ▸ h
theorem wo_pre {o : Out S L R} (hs : ∀ P : Pst, Ws K W u ρ' P → Ws K W t ρ P) (h : Wo K W k u ρ' e eL o) : Wo K W k t ρ e eL o := h.imp id fun h => hs _ h
theorem wo_nx {s : S} (h : ρ = e s) : Wo K W k tNext ρ e eL (.nx s) := .inr (ws_next h)
theorem wo_seq {o1 : Out S1 L R} {f : S1 → Out S L R} (h : Wo K W k t ρ e1 eL o1) (h2 : ∀ s, Wo K W k u (e1 s) e eL (f s)) : Wo K W k (tSeq t u) ρ e eL (o1.seq f) := by
  rcases h with rfl | h
  · exact .inl rfl
  cases o1 with
  | nx s =>
    rcases h2 s with h3 | h3
    · exact .inl h3
    · refine .inr (ws_seq (ws_mono h ?_ ?_ ?_ ?_ ?_))
      · intro ρ' q
        have q : ρ' = e1 s := q
        subst q
        exact h3
      · exact fun _ q => q.elim
      · exact fun _ q => q.elim
      · exact fun _ q => q.elim
      · exact fun _ _ q => q.elim
  | rt r => exact .inr (ws_seq (ws_mono h (fun _ q => q.elim) (fun _ q => q) (fun _ q => q) (fun _ q => q) (fun _ _ q => q)))
  | bk r => exact .inr (ws_seq (ws_mono h (fun _ q => q.elim) (fun _ q => q) (fun _ q => q) (fun _ q => q) (fun _ _ q => q)))
  | ct r => exact .inr (ws_seq (ws_mono h (fun _ q => q.elim) (fun _ q => q) (fun _ q => q) (fun _ q => q) (fun _ _ q => q)))
  | ex r => exact .inr (ws_seq (ws_mono h (fun _ q => q.elim) (fun _ q => q) (fun _ q => q) (fun _ q => q) (fun _ _ q => q)))
  | no => exact .inl rfl
theorem wo_up {o1 : Out Empty L R} (h : Wo K W k t ρ Empty.elim eL o1) : Wo K W k (tSeq t u) ρ e eL (o1.up : Out S L R) := wo_seq h fun s => s.elim
/-! x = e, then the rest -/
theorem wq_asg_ [Enc α] {r : Res α} {f : α → Out S L R} (h : EvR K W te ρ r) (h2 : ∀ a, Wo K W k u (ρ.set i (.im (en a))) e eL (f a)) : Wo K W k (tSeq (tAsg te (gName i)) u) ρ e eL (r.to f) := by
  cases r with
  | ok a => exact wo_pre (fun P q => ws_seq (ws_asg h q)) (h2 a)
  | ex z => exact .inr (ws_seq (ws_asgZ h rfl))
  | no => exact .inl rfl
theorem wq_asgO_ [Enc α] {r : Res (List α)} {f : List α → Out S L R} (h : EoR K W te ρ r) (hi : i < ρ.length) (h2 : ∀ a : List α, Wo K W k u (ρ.set i (.ow (a.map en))) e eL (f a)) : Wo K W k (tSeq (tAsg te (gName i)) u) ρ e eL (r.to f) := by
  cases r with
  | ok a => exact wo_pre (fun P q => ws_seq (ws_asgO h hi q)) (h2 a)
  | ex z => exact .inr (ws_seq (ws_asgZ h rfl))
  | no => exact .inl rfl
theorem wq_asgC_ [Py α] {r : Res α} {f : α → Out S L R} (h : EcR K W te ρ r) (hi : i < ρ.length) (h2 : ∀ a : α, Wo K W k u (ρ.set i (.cl (eo a))) e eL (f a)) : Wo K W k (tSeq (tAsg te (gName i)) u) ρ e eL (r.to f) := by
  cases r with
  | ok a => exact wo_pre (fun P q => ws_seq (ws_asgC h hi q)) (h2 a)
  | ex z => exact .inr (ws_seq (ws_asgZ h rfl))
  | no => exact .inl rfl
/-- a, b = e -/
theorem wq_asgG_ [Enc α] {r : Res α} {as : α → List (Nat × D)} {f : α → Out S L R} (h : EvR K W te ρ r) (hg : TgR K g as) (h2 : ∀ a, Wo K W k u (setD ρ (as a)) e eL (f a)) : Wo K W k (tSeq (tAsg te g) u) ρ e eL (r.to f) := by
  cases r with
  | ok a => exact wo_pre (fun P q => ws_seq (ws_asgG h (hg a) q)) (h2 a)
  | ex z => exact .inr (ws_seq (ws_asgZ h rfl))
  | no => exact .inl rfl
theorem wq_drop_ [Enc α] {r : Res α} {f : α → Out S L R} (h : EvR K W te ρ r) (h2 : ∀ a, Wo K W k u ρ e eL (f a)) : Wo K W k (tSeq (tDrop te) u) ρ e eL (r.to f) := by
  cases r with
  | ok a => exact wo_pre (fun P q => ws_seq (ws_drop h q)) (h2 a)
  | ex z => exact .inr (ws_seq (ws_dropZ h rfl))
  | no => exact .inl rfl
/-- x op= e -/
theorem wq_aug_ [Enc α] [Enc β] [Enc γ] {r : R2} {q : α → β → Res γ} {x : α} {rb : Res β} {f : γ → Out S L R} (hx : ρ[i]? = some (.im (en x))) (hq : ∀ a b c, q a b = .ok c → RvD K r (en a) (en b) (en c)) (hn : ∀ a b z, q a b ≠ .ex z) (h : EvR K W te ρ rb) (h2 : ∀ a : γ, Wo K W k u (ρ.set i (.im (en a))) e eL (f a)) : Wo K W k (tSeq (tAug i te r) u) ρ e eL (rb.to fun b => (q x b).to f) := by
  cases rb with
  | ok b =>
    show Wo K W k _ ρ e eL ((q x b).to f)
    cases e2 : q x b with
    | ok c => exact wo_pre (fun P q1 => ws_seq (ws_aug hx h (hq x b c e2) q1)) (h2 c)
    | ex z => exact (hn _ _ _ e2).elim
    | no => exact .inl rfl
  | ex z =>
    refine .inr (ws_seq ?_)
    intro M T0 H T σ Dn en_ k_
    obtain ⟨v, h1, h2⟩ := en_.get hx
    exact ⟨v, h1, h M T0 H T σ [] _ en_ fun od H' T' s' t' e' hx => k_.ex ρ σ _ _ _ od H' T' rfl s' e' (hx.dn en_.t0)⟩
  | no => exact .inl rfl
theorem wq_augAdd {x : Int} {rb : Res Int} {f : Int → Out S L R} (hx : ρ[i]? = some (.im (en x))) (h : EvR K W te ρ rb) (h2 : ∀ a : Int, Wo K W k u (ρ.set i (.im (en a))) e eL (f a)) : Wo K W k (tSeq (tAug i te (rI0 fun i j => .int (i + j))) u) ρ e eL (rb.to fun b => (Res.ok (x + b)).to f) :=
  wq_aug_ (q := fun a b : Int => .ok (a + b)) hx (fun a b c h => by cases h; exact rv_I0 fun _ => rfl) (fun _ _ _ h => nomatch h) h h2
theorem wq_augSub {x : Int} {rb : Res Int} {f : Int → Out S L R} (hx : ρ[i]? = some (.im (en x))) (h : EvR K W te ρ rb) (h2 : ∀ a : Int, Wo K W k u (ρ.set i (.im (en a))) e eL (f a)) : Wo K W k (tSeq (tAug i te (rI0 fun i j => .int (i - j))) u) ρ e eL (rb.to fun b => (Res.ok (x - b)).to f) :=
  wq_aug_ (q := fun a b : Int => .ok (a - b)) hx (fun a b c h => by cases h; exact rv_I0 fun _ => rfl) (fun _ _ _ h => nomatch h) h h2
/-! if -/
theorem wo_if {rc : Res Bool} {oa ob : Out S L R} (hc : EtR K W tt ρ rc) (ha : Wo K W k t ρ e eL oa) (hb : Wo K W k u ρ e eL ob) : Wo K W k (tIfS tt t u) ρ e eL (ifO rc oa ob) := by
  cases rc with
  | ok c =>
    cases c with
    | true => exact wo_pre (fun P q => ws_if hc (fun _ => q) (fun h => nomatch h)) ha
    | false => exact wo_pre (fun P q => ws_if hc (fun h => nomatch h) (fun _ => q)) hb
  | ex z => exact .inr fun M T0 H T σ Dn en_ k_ => hc M T0 H T σ [] _ en_ fun od H' T' s' t' e' hx => k_.ex ρ σ _ _ _ od H' T' rfl s' e' (hx.dn en_.t0)
  | no => exact .inl rfl
theorem wq_ifC {rc : Res Bool} {t' : TS} {oa : Out S L R} {ob : Out S L R} {oa' ob' : Out S L R} (hc : EtR K W tt ρ rc) (ha : Wo K W k (tSeq t u) ρ e eL oa) (hb : Wo K W k (tSeq t' u) ρ e eL ob) : Wo K W k (tSeq (tIfS tt t t') u) ρ e eL (ifO rc oa ob) := by
  cases rc with
  | ok c =>
    cases c with
    | true => exact wo_pre (fun P q M T0 H T σ Dn en_ k_ => hc M T0 H T σ [] _ en_ fun H' T' s t e => q M T0 H' T' σ Dn e (k_.up s)) ha
    | false => exact wo_pre (fun P q M T0 H T σ Dn en_ k_ => hc M T0 H T σ [] _ en_ fun H' T' s t e => q M T0 H' T' σ Dn e (k_.up s)) hb
  | ex z => exact .inr fun M T0 H T σ Dn en_ k_ => hc M T0 H T σ [] _ en_ fun od H' T' s' t' e' hx => k_.ex ρ σ _ _ _ od H' T' rfl s' e' (hx.dn en_.t0)
  | no => exact .inl rfl
/-- if c: what leaves; then the rest -/
theorem wq_ifx {rc : Res Bool} {oa : Out Empty L R} {ob : Out S L R} (hc : EtR K W tt ρ rc) (ha : Wo K W k t ρ Empty.elim eL oa) (hb : Wo K W k u ρ e eL ob) : Wo K W k (tSeq (tIfS tt t tNext) u) ρ e eL (ifO rc oa.up ob) :=
  wq_ifC (t' := tNext) (oa' := ob) (ob' := ob) hc (wo_up ha) (wo_pre (fun P q => ws_seq (ws_next q)) hb)
/-- if c: a else: what leaves; then the rest -/
theorem wq_ifxE {rc : Res Bool} {ob : Out Empty L R} {oa : Out S L R} {t' : TS} (hc : EtR K W tt ρ rc) (ha : Wo K W k (tSeq t u) ρ e eL oa) (hb : Wo K W k t' ρ Empty.elim eL ob) : Wo K W k (tSeq (tIfS tt t t') u) ρ e eL (ifO rc oa ob.up) :=
  wq_ifC (t' := t') (oa' := oa) (ob' := oa) hc ha (wo_up hb)
theorem tseq_assoc {o : Out S L R} {v : TS} (h : Wo K W k (tSeq t (tSeq u v)) ρ e eL o) : Wo K W k (tSeq (tSeq t u) v) ρ e eL o := h
/-! return, raise -/
theorem wo_ret [Enc R] {r : Res R} (h : EvR K W te ρ r) : Wo K W kIm (tRet te) ρ e eL (r.to .rt) := by
  cases r with
  | ok a => exact .inr (ws_ret h rfl)
  | ex z => exact .inr (ws_retZ h rfl)
  | no => exact .inl rfl
theorem wo_retO [Enc α] {r : Res (List α)} (h : EoR K W te ρ r) : Wo K W kOw (tRet te) ρ e eL (r.to .rt) := by
  cases r with
  | ok a => exact .inr (ws_retO h rfl)
  | ex z => exact .inr (ws_retZ h rfl)
  | no => exact .inl rfl
theorem wo_retC [Py R] {r : Res R} (h : EcR K W te ρ r) : Wo K W kCl (tRet te) ρ e eL (r.to .rt) := by
  cases r with
  | ok a => exact .inr (ws_retC h rfl)
  | ex z => exact .inr (ws_retZ h rfl)
  | no => exact .inl rfl
theorem wo_retV [Enc α] {l : List α} (h : ρ[i]? = some (.ow (l.map en))) : Wo K W kOw (tRet (tVar i)) ρ e eL (.rt l) := .inr (ws_retV h rfl)
theorem wo_retVC [Py R] {r : R} (h : ρ[i]? = some (.cl (eo r))) : Wo K W kCl (tRet (tVar i)) ρ e eL (.rt r) := .inr (ws_retVc h rfl)
theorem wo_retN : Wo K W (kIm (γ := Unit)) tRetN ρ e eL (.rt ()) := .inr (ws_retN rfl)
theorem wo_retND : Wo K W (kIm (γ := Dy)) tRetN ρ e eL (.rt .non) := .inr (ws_retN rfl)
theorem wo_raise0 {c : String} (hf : Cm.fs c = []) : Wo K W k (tRaise0 W (.ref (Cm.at_ c))) ρ e eL (.ex (c, [])) := .inr (ws_raise0 (by show _ = (_, _, _); rw [hf]; rfl))
theorem wo_raiseN {c : String} {ns : List Str} {rr : Res (List Dy)} (hf : Cm.fs c = ns) (hr : ElR K W ns.length tr ρ rr) (hn : ns.length ≤ 900 := by decide) :
    Wo K W k (fun _ σ H => tMkO (Cm.at_ c) (spXI (Cm.at_ c) ns) [] tr σ H fun cls d H' => W cls d σ H') ρ e eL (rr.to fun l => .ex (c, l)) := by
  obtain ⟨hr, hl⟩ := hr
  cases rr with
  | ok l =>
    refine .inr (ws_rx hr (by rw [List.length_map]; exact hl l rfl) hn ?_)
    show _ = (_, _, _)
    rw [hf]
    rfl
  | ex z => exact .inr fun M T0 H T σ Dn en_ k_ => hr M T0 H T σ [] _ en_ fun od H' T' s' t' e' hx => k_.ex ρ σ _ _ _ od H' T' rfl s' e' (hx.dn en_.t0)
  | no => exact .inl rfl
theorem wo_break {l : L} (h : ρ = eL l) : Wo K W k tBreak ρ e eL (.bk l) := .inr (ws_break h)
theorem wo_cont {l : L} (h : ρ = eL l) : Wo K W k tCont ρ e eL (.ct l) := .inr (ws_cont h)
/-! slots in another form -/
theorem wo_drop_ {o : Out S L R} (hi : i < ρ.length) (h : Wo K W k t (ρ.set i .no) e eL o) : Wo K W k t ρ e eL o := wo_pre (fun P q => ws_forget hi q) h
theorem ws_ims {d : D} {P : Pst} (hi : ρ[i]? = some (.im d)) (h : Ws K W t (ρ.set i (.im d.er)) P) : Ws K W t ρ P := fun M T0 H T σ Dn en_ k_ => by
  obtain ⟨v, h1, h2⟩ := en_.get hi
  have e2 := EnX.set (i := i) en_ (Is.er d v h2)
  rw [set_self h1] at e2
  exact h M T0 H T σ Dn e2 k_
theorem wo_fzC [Py α] {a : α} {o : Out S L R} (hi : ρ[i]? = some (.cl (eo a))) (h : Wo K W k t (ρ.set i (.im (en a))) e eL o) : Wo K W k t ρ e eL o := wo_pre (fun P q => ws_fzC hi (ws_ims (i := i) (d := eo a) (by rw [List.getElem?_set_self (List.getElem?_eq_some_iff.mp hi).1]) (by rw [List.set_set, er_o]; exact q))) h
theorem wo_fzO [Py α] {l : List α} {o : Out S L R} (hi : ρ[i]? = some (.ow (l.map en))) (h : Wo K W k t (ρ.set i (.im (en l))) e eL o) : Wo K W k t ρ e eL o := wo_pre (fun P q => ws_fz hi (by rw [← en_lst]; exact q)) h
theorem ws_owclL [Lf α] {l : List α} {P : Pst} (hi : ρ[i]? = some (.ow (l.map en))) (h : Ws K W t (ρ.set i (.cl (eo l))) P) : Ws K W t ρ P := fun M T0 H T σ Dn en_ k_ => by
  obtain ⟨x, Ls, h1, h2, h3⟩ := en_.take hi
  have hl : i < (ρ.set i .no).length := by rw [List.length_set]; exact (List.getElem?_eq_some_iff.mp hi).1
  cases h2 with
  | ow iv hh =>
    cases hh
    have e3 := EnX.setC (d := eo l) h3 hl (by rw [eo_lis]; exact ⟨_, _, [], rfl, rfl, isCL_lf iv⟩)
    rw [set_self h1, List.set_set] at e3
    exact h M T0 H T σ Dn e3 k_
theorem wo_owcl [Lf α] {l : List α} {o : Out S L R} (hi : ρ[i]? = some (.ow (l.map en))) (h : Wo K W k t (ρ.set i (.cl (eo l))) e eL o) : Wo K W k t ρ e eL o := wo_pre (fun P q => ws_owclL hi q) h
theorem ws_imcl [Lf α] {a : α} {P : Pst} (hi : ρ[i]? = some (.im (en a))) (h : Ws K W t (ρ.set i (.cl (eo a))) P) : Ws K W t ρ P := fun M T0 H T σ Dn en_ k_ => by
  obtain ⟨x, Ls, h1, h2, h3⟩ := en_.take hi
  have hl : i < (ρ.set i .no).length := by rw [List.length_set]; exact (List.getElem?_eq_some_iff.mp hi).1
  cases h2 with
  | im iv hh =>
    cases hh
    have e3 := EnX.setC (Lc := []) (d := eo a) h3 hl (isC_lf (Lf.lf a) iv)
    rw [set_self h1, List.set_set] at e3
    exact h M T0 H T σ Dn e3 k_
theorem wo_imcl [Lf α] {a : α} {o : Out S L R} (hi : ρ[i]? = some (.im (en a))) (h : Wo K W k t (ρ.set i (.cl (eo a))) e eL o) : Wo K W k t ρ e eL o := wo_pre (fun P q => ws_imcl hi q) h
/-! for, while -/
theorem wo_for [Enc α] {rs : Res (List α)} {as : α → List (Nat × D)} {f : α → S → Out S S R} {s0 : S} (hs : SrR K W wi ρ rs) (hg : TgR K g as) (h0 : ρ = e s0) (hb : ∀ a s, Wo K W k t (setD (e s) (as a)) e e (f a s)) :
    Wo K W k (tFor wi g t) ρ e eL (rs.to fun l => forO f l s0) := by
  cases rs with
  | ex z => exact .inr fun M T0 H T σ Dn en_ k_ => hs M T0 H T σ [] _ en_ fun od H' T' s' t' e' hx => k_.ex ρ σ _ _ _ od H' T' rfl s' e' (hx.dn en_.t0)
  | no => exact .inl rfl
  | ok l =>
    show Wo K W k _ ρ e eL (forO f l s0)
    by_cases hn : (forO f l s0 : Out S L R) = .no
    · exact .inl hn
    refine .inr ?_
    refine ws_for hs (fun i ρ' => (∃ s, ρ' = e s ∧ (forO f (l.drop i) s : Out S L R) = forO f l s0) ∨ (post k e eL (forO f l s0)).nx ρ' ∧ False) (.inl ⟨s0, h0, rfl⟩) ?_ ?_
    · rintro i d ρ' hd (⟨s, rfl, hfs⟩ | ⟨_, hh⟩)
      · obtain ⟨x, hx, rfl⟩ := map_get hd
        refine ⟨as x, hg x, ?_⟩
        rw [drop_get hx, forO] at hfs
        rcases hb x s with h1 | h1
        · rw [h1] at hfs
          exact (hn hfs.symm).elim
        · cases ef : f x s with
          | nx s' =>
            rw [ef] at hfs h1
            exact ws_mono h1 (fun ρ2 q => .inl ⟨s', q, hfs⟩) (fun _ q => q.elim) (fun _ q => q.elim) (fun _ q => q.elim) (fun _ _ q => q.elim)
          | ct s' =>
            rw [ef] at hfs h1
            exact ws_mono h1 (fun _ q => q.elim) (fun _ q => q.elim) (fun _ q => q.elim) (fun ρ2 q => .inl ⟨s', q, hfs⟩) (fun _ _ q => q.elim)
          | bk s' =>
            rw [ef] at hfs h1
            refine ws_mono h1 (fun _ q => q.elim) (fun _ q => q.elim) (fun ρ2 q => ?_) (fun _ q => q.elim) (fun _ _ q => q.elim)
            rw [← hfs]
            exact q
          | rt r =>
            rw [ef] at hfs h1
            refine ws_mono h1 (fun _ q => q.elim) (fun v q => ?_) (fun _ q => q.elim) (fun _ q => q.elim) (fun _ _ q => q.elim)
            rw [← hfs]
            exact q
          | ex z =>
            rw [ef] at hfs h1
            refine ws_mono h1 (fun _ q => q.elim) (fun _ q => q.elim) (fun _ q => q.elim) (fun _ q => q.elim) (fun _ _ q => ?_)
            rw [← hfs]
            exact q
          | no =>
            rw [ef] at hfs
            exact (hn hfs.symm).elim
      · exact hh.elim
    · rintro ρ' (⟨s, rfl, hfs⟩ | ⟨_, hh⟩)
      · rw [List.length_map, List.drop_length, forO] at hfs
        rw [← hfs]
        exact rfl
      · exact hh.elim
theorem wo_while {c : S → Res Bool} {f : S → Out S S R} {n : Nat} {s0 : S} (h0 : ρ = e s0) (hc : ∀ s, EtR K W tt (e s) (c s)) (hb : ∀ s, Wo K W k t (e s) e e (f s)) :
    Wo K W k (tWhile tt t) ρ e eL (whileO c f n s0) := by
  by_cases hn : (whileO c f n s0 : Out S L R) = .no
  · exact .inl hn
  refine .inr ?_
  refine ws_while (fun m ρ' => ∃ s, ρ' = e s ∧ (whileO c f m s : Out S L R) = whileO c f n s0) n ⟨s0, h0, rfl⟩ ?_
  rintro m ρ' ⟨s, rfl, hfs⟩
  have hcs := hc s
  cases m with
  | zero => exact (hn hfs.symm).elim
  | succ m =>
    rw [whileO] at hfs
    cases ec : c s with
    | no => rw [ec] at hfs; exact (hn hfs.symm).elim
    | ex z => rw [ec] at hfs; exact (hn hfs.symm).elim
    | ok b =>
      rw [ec] at hfs hcs
      refine ⟨b, hcs, fun hb1 => ?_, fun hb1 => ?_⟩
      · subst hb1
        rcases hb s with h1 | h1
        · rw [h1] at hfs
          exact (hn hfs.symm).elim
        · cases ef : f s with
          | nx s' =>
            rw [ef] at hfs h1
            exact ws_mono h1 (fun ρ2 q => ⟨m, Nat.lt_succ_self m, s', q, hfs⟩) (fun _ q => q.elim) (fun _ q => q.elim) (fun _ q => q.elim) (fun _ _ q => q.elim)
          | ct s' =>
            rw [ef] at hfs h1
            exact ws_mono h1 (fun _ q => q.elim) (fun _ q => q.elim) (fun _ q => q.elim) (fun ρ2 q => ⟨m, Nat.lt_succ_self m, s', q, hfs⟩) (fun _ _ q => q.elim)
          | bk s' =>
            rw [ef] at hfs h1
            refine ws_mono h1 (fun _ q => q.elim) (fun _ q => q.elim) (fun ρ2 q => ?_) (fun _ q => q.elim) (fun _ _ q => q.elim)
            rw [← hfs]
            exact q
          | rt r =>
            rw [ef] at hfs h1
            refine ws_mono h1 (fun _ q => q.elim) (fun v q => ?_) (fun _ q => q.elim) (fun _ q => q.elim) (fun _ _ q => q.elim)
            rw [← hfs]
            exact q
          | ex z =>
            rw [ef] at hfs h1
            refine ws_mono h1 (fun _ q => q.elim) (fun _ q => q.elim) (fun _ q => q.elim) (fun _ q => q.elim) (fun _ _ q => ?_)
            rw [← hfs]
            exact q
          | no =>
            rw [ef] at hfs
            exact (hn hfs.symm).elim
      · subst hb1
        rw [← hfs]
        exact rfl
end
end FS
set_option Elab.async false
set_option linter.all false
set_option maxRecDepth 100000
set_option maxHeartbeats 4000000
set_option exponentiation.threshold 20000
/-! Changes in place; defs. -/
namespace FS
open PySem PySem.Spec PyProof.Rows L2
open Py (dy un)
open Enc (en)
open EncA (ea)

section
variable [Cm] {K : PySem.W.Frag} {W : L2.WX} {ρ ρ' : Rho} {te ta tb tc to_ : TE} {tt tu : TT} {t u : TS} {tr : TA} {wi : TI} {g : TG} {i j : Nat} {α β γ τ S S1 S' L L' R : Type} {k : R → Sl} {e : S → Rho} {e1 : S1 → Rho} {eL : L → Rho}
theorem app_ok {l m : List α} {x : α} (h : app l x = .ok m) : l.length < 100000 ∧ m = l ++ [x] := by
  obtain ⟨h1, h2⟩ := if_ok h
  exact ⟨h1, h2.symm⟩
theorem app_ex {l : List α} {x : α} {z : Xn} : app l x ≠ .ex z := if_ex
theorem ws_dropB {r : List V → Hp → VK → Prop} {z : Exn} {P : Pst} {ta : TE} : True := trivial
/-- x.append(e), x a list of known things -/
theorem wq_appO_ [Py α] {l : List α} {r : Res α} {f : List α → Out S L R} (hi : ρ[i]? = some (.ow (l.map en))) (h : EvR K W te ρ r) (h2 : ∀ m : List α, Wo K W k u (ρ.set i (.ow (m.map en))) e eL (f m)) :
    Wo K W k (tSeq (tDrop (tBM K "list" rAppend (tVar i) (tCons te tNil))) u) ρ e eL (r.to fun x => (app l x).to f) := by
  cases r with
  | ok x =>
    show Wo K W k _ ρ e eL ((app l x).to f)
    cases e2 : app l x with
    | ok m =>
      obtain ⟨h3, rfl⟩ := app_ok e2
      refine wo_pre (fun P q => ws_seq (ws_app hi h (by rw [List.length_map]; exact h3) ?_)) (h2 _)
      rw [List.map_append] at q
      exact q
    | ex z => exact (app_ex e2).elim
    | no => exact .inl rfl
  | ex z =>
    refine .inr (ws_seq ?_)
    intro M T0 H T σ Dn en_ k_
    obtain ⟨p, vs, h1, hT, h4, _⟩ := en_.own hi
    exact ⟨.ref p, h1, .inl ⟨rfl, vs, .inl (.inl hT)⟩, h M T0 H T σ [] _ en_ fun od H' T' s' t' e' hx => k_.ex ρ σ _ _ _ od H' T' rfl s' e' (hx.dn en_.t0)⟩
  | no => exact .inl rfl
/-- x[z] = e -/
theorem wq_setO_p [Py α] {l : List α} {r : Res α} {z : Int} {f : List α → Out S L R} (hi : ρ[i]? = some (.ow (l.map en))) (h : EvR K W te ρ r) (hz : EvR K W tb ρ (.ok z)) (h2 : ∀ m : List α, Wo K W k u (ρ.set i (.ow (m.map en))) e eL (f m)) :
    Wo K W k (tSeq (tAsg te (gSub (tVar i) tb rSetL)) u) ρ e eL (r.to fun x => (setAt l z x).to f) := by
  cases r with
  | ok x =>
    show Wo K W k _ ρ e eL ((setAt l z x).to f)
    cases e2 : setAt l z x with
    | ok m =>
      obtain ⟨j, h3, rfl⟩ := Option.map_eq_some_iff.mp (ofO_ok e2)
      refine wo_pre (fun P q => ws_seq (ws_setL (j := j) hi h hz (by rw [List.length_map]; exact h3) ?_)) (h2 _)
      rw [List.map_set] at q
      exact q
    | ex z => exact (ofO_ex e2).elim
    | no => exact .inl rfl
  | ex z => exact .inr (ws_seq (ws_asgZ h rfl))
  | no => exact .inl rfl
theorem wq_setO_ [Py α] {l : List α} {r : Res α} {rz : Res Int} {f : List α → Out S L R} (hi : ρ[i]? = some (.ow (l.map en))) (h : EvR K W te ρ r) (hz : EvR K W tb ρ rz) (h2 : ∀ m : List α, Wo K W k u (ρ.set i (.ow (m.map en))) e eL (f m)) :
    Wo K W k (tSeq (tAsg te (gSub (tVar i) tb rSetL)) u) ρ e eL (r.to fun x => rz.calm.to fun z => (setAt l z x).to f) := by
  cases rz with
  | ok z => exact wq_setO_p hi h hz h2
  | ex z =>
    cases r with
    | ex z => exact .inr (ws_seq (ws_asgZ h rfl))
    | no => exact .inl rfl
    | ok x => exact .inl rfl
  | no =>
    cases r with
    | ex z => exact .inr (ws_seq (ws_asgZ h rfl))
    | no => exact .inl rfl
    | ok x => exact .inl rfl
theorem ws_appZ {d : D} {l : List D} {z : Exn} {P : Pst} (hi : ρ[i]? = some (.cl d)) (hp : EvL K to_ ρ i []) (hd : D.at [] d = some (.lst l)) (h : EvZ K W te ρ z) (hz : P.ex ρ z) : Ws K W (tDrop (tBM K "list" rAppend to_ (tCons te tNil))) ρ P := fun M T0 H T σ Dn en_ k_ =>
  hp M T0 H T σ [] _ en_ fun u H1 T1 s1 t1 e1 ⟨v, n1, n2⟩ => by
    obtain ⟨v', u', Ls, L0, h1, ⟨a, vs, Lt, eu, eL, hl⟩, h3, h4, _⟩ := e1.spot (π := []) hi hd
    rw [n1] at h1
    cases h1
    have eu' := Nav.eq n2 h3
    subst eu'
    subst eu
    have hT : T1 a = some (.lst vs) := h4.here rfl (a, .lst vs) (by rw [eL]; exact List.mem_cons_self)
    exact ⟨.inl ⟨rfl, vs, .inl (.inl hT)⟩, h M T0 H1 T1 σ [] _ e1 fun od H' T' s' t' e' hx => k_.ex ρ σ _ _ _ od H' T' hz (s1.trans s') e' (hx.dn (en_.t0.trans t1))⟩
theorem erase_map (f : α → β) : ∀ (l : List α) (n : Nat), (l.map f).eraseIdx n = (l.eraseIdx n).map f
  | [], _ => rfl
  | _ :: _, 0 => rfl
  | a :: l, n + 1 => by
    show f a :: (l.map f).eraseIdx n = f a :: (l.eraseIdx n).map f
    rw [erase_map f l n]
/-- .. in a tree -/
theorem wq_appC_ [Py α] {l : List α} {r : Res α} {f : List α → Out S L R} (hi : ρ[i]? = some (.cl (eo l))) (h : EcR K W te ρ r) (h2 : ∀ m : List α, Wo K W k u (ρ.set i (.cl (eo m))) e eL (f m)) :
    Wo K W k (tSeq (tDrop (tBM K "list" rAppend (tVar i) (tCons te tNil))) u) ρ e eL (r.to fun x => (app l x).to f) := by
  rw [eo_lis] at hi
  cases r with
  | ok x =>
    show Wo K W k _ ρ e eL ((app l x).to f)
    cases e2 : app l x with
    | ok m =>
      obtain ⟨h3, rfl⟩ := app_ok e2
      refine wo_pre (fun P q => ws_seq (ws_appP (π := []) hi (el_var hi) rfl h (by rw [List.length_map]; exact h3) ?_)) (h2 _)
      rw [eo_lis, List.map_append] at q
      exact q
    | ex z => exact (app_ex e2).elim
    | no => exact .inl rfl
  | ex z =>
    refine .inr (ws_seq ?_)
    exact ws_appZ hi (el_var hi) rfl h rfl
  | no => exact .inl rfl
theorem wq_setC_p [Py α] {l : List α} {r : Res α} {z : Int} {f : List α → Out S L R} (hi : ρ[i]? = some (.cl (eo l))) (h : EcR K W te ρ r) (hz : EvR K W tb ρ (.ok z)) (h2 : ∀ m : List α, Wo K W k u (ρ.set i (.cl (eo m))) e eL (f m)) :
    Wo K W k (tSeq (tAsg te (gSub (tVar i) tb rSetL)) u) ρ e eL (r.to fun x => (setAt l z x).to f) := by
  rw [eo_lis] at hi
  cases r with
  | ok x =>
    show Wo K W k _ ρ e eL ((setAt l z x).to f)
    cases e2 : setAt l z x with
    | ok m =>
      obtain ⟨j, h3, rfl⟩ := Option.map_eq_some_iff.mp (ofO_ok e2)
      have hj := (ixN_seq h3).2.1
      refine wo_pre (fun P q => ws_seq (ws_setP (π := []) (j := j) (y0 := (l.map eo)[j]'(by rw [List.length_map]; exact hj)) hi h (el_var hi) rfl hz (by rw [List.length_map]; exact h3) (List.getElem?_eq_getElem _) ?_)) (h2 _)
      rw [eo_lis, List.map_set] at q
      exact q
    | ex z => exact (ofO_ex e2).elim
    | no => exact .inl rfl
  | ex z => exact .inr (ws_seq (ws_asgZ h rfl))
  | no => exact .inl rfl
theorem wq_setC_ [Py α] {l : List α} {r : Res α} {rz : Res Int} {f : List α → Out S L R} (hi : ρ[i]? = some (.cl (eo l))) (h : EcR K W te ρ r) (hz : EvR K W tb ρ rz) (h2 : ∀ m : List α, Wo K W k u (ρ.set i (.cl (eo m))) e eL (f m)) :
    Wo K W k (tSeq (tAsg te (gSub (tVar i) tb rSetL)) u) ρ e eL (r.to fun x => rz.calm.to fun z => (setAt l z x).to f) := by
  cases rz with
  | ok z => exact wq_setC_p hi h hz h2
  | ex z =>
    cases r with
    | ex z => exact .inr (ws_seq (ws_asgZ h rfl))
    | no => exact .inl rfl
    | ok x => exact .inl rfl
  | no =>
    cases r with
    | ex z => exact .inr (ws_seq (ws_asgZ h rfl))
    | no => exact .inl rfl
    | ok x => exact .inl rfl
/-! one place deeper: x[z].append(e), x[z][y] = e -/
theorem el_1 {l : List (List α)} [Py α] {z : Int} {j : Nat} (hi : ρ[i]? = some (.cl (eo l))) (hz : EvR K W tb ρ (.ok z)) (hj : idx l.length z = some j) : EvL K (tOp (rIx K) (tVar i) tb) ρ i [j] := by
  rw [eo_lis] at hi
  exact el_ix (π := []) hi (el_var hi) rfl hz (by rw [List.length_map]; exact hj)
theorem put_1 [Py α] {l : List (List α)} {j : Nat} {m m' : List α} (h : l[j]? = some m) : D.put [j] (eo l) (eo m') = eo (l.set j m') := by
  rw [eo_lis (l := l), eo_lis (l := l.set j m'), List.map_set]
  show D.lst ((l.map eo).modify j fun d => D.put [] d (eo m')) = _
  rw [modify_set (d := eo m) _ (by rw [List.getElem?_map, h]; rfl)]
  rfl
theorem at_1 [Py α] {l : List (List α)} {j : Nat} {m : List α} (h : l[j]? = some m) : D.at [j] (eo l) = some (eo m) := by
  rw [eo_lis]
  show ((l.map eo)[j]?).bind (D.at []) = _
  rw [List.getElem?_map, h]
  rfl
theorem modAt_ok {l m : List α} {z : Int} {f : α → Res α} (h : modAt l z f = .ok m) : ∃ j x y, idx l.length z = some j ∧ l[j]? = some x ∧ f x = .ok y ∧ m = l.set j y := by
  unfold modAt at h
  cases e : at_ l z with
  | no => rw [e] at h; cases h
  | ex z => exact (ofO_ex e).elim
  | ok x =>
    rw [e] at h
    obtain ⟨j, h1, h2⟩ := Option.bind_eq_some_iff.mp (ofO_ok e)
    have h : (f x).bind (fun y => setAt l z y) = .ok m := h
    cases e2 : f x with
    | no => rw [e2] at h; cases h
    | ex z => rw [e2] at h; cases h
    | ok y =>
      rw [e2] at h
      obtain ⟨j', h3, rfl⟩ := Option.map_eq_some_iff.mp (ofO_ok (show setAt l z y = .ok m from h))
      rw [h1] at h3
      cases h3
      exact ⟨j, x, y, h1, h2, e2, rfl⟩
/-- what never raises -/
theorem wq_appC1_ [Py α] {l : List (List α)} {x : α} {z : Int} {f : List (List α) → Out S L R} (hi : ρ[i]? = some (.cl (eo l))) (hz : EvR K W tb ρ (.ok z)) (h : EcR K W te ρ (.ok x)) (h2 : ∀ m : List (List α), Wo K W k u (ρ.set i (.cl (eo m))) e eL (f m)) :
    Wo K W k (tSeq (tDrop (tBM K "list" rAppend (tOp (rIx K) (tVar i) tb) (tCons te tNil))) u) ρ e eL ((modAt l z fun y => app y x).calm.to f) := by
  cases e2 : modAt l z fun y => app y x with
  | no => exact .inl rfl
  | ex z => exact .inl rfl
  | ok m =>
    obtain ⟨j, y, y', h3, h4, h5, rfl⟩ := modAt_ok e2
    obtain ⟨h6, rfl⟩ := app_ok h5
    refine wo_pre (fun P q => ws_seq (ws_appP (π := [j]) (l := y.map eo) hi (el_1 hi hz h3) (by rw [at_1 h4, eo_lis]) h (by rw [List.length_map]; exact h6) ?_)) (h2 _)
    have e3 : D.lst (y.map eo ++ [eo x]) = eo (y ++ [x]) := by rw [eo_lis, List.map_append]; rfl
    rw [e3, put_1 h4]
    exact q
theorem wq_setC1_ [Py α] {l : List (List α)} {x : α} {z w : Int} {f : List (List α) → Out S L R} (hi : ρ[i]? = some (.cl (eo l))) (h : EcR K W te ρ (.ok x)) (hz : EvR K W tb ρ (.ok z)) (hw : EvR K W tc ρ (.ok w)) (h2 : ∀ m : List (List α), Wo K W k u (ρ.set i (.cl (eo m))) e eL (f m)) :
    Wo K W k (tSeq (tAsg te (gSub (tOp (rIx K) (tVar i) tb) tc rSetL)) u) ρ e eL ((modAt l z fun y => setAt y w x).calm.to f) := by
  cases e2 : modAt l z fun y => setAt y w x with
  | no => exact .inl rfl
  | ex z => exact .inl rfl
  | ok m =>
    obtain ⟨j, y, y', h3, h4, h5, rfl⟩ := modAt_ok e2
    obtain ⟨j2, h6, rfl⟩ := Option.map_eq_some_iff.mp (ofO_ok h5)
    have hj := (ixN_seq h6).2.1
    refine wo_pre (fun P q => ws_seq (ws_setP (π := [j]) (l := y.map eo) (j := j2) (y0 := (y.map eo)[j2]'(by rw [List.length_map]; exact hj)) hi h (el_1 hi hz h3) (by rw [at_1 h4, eo_lis]) hw (by rw [List.length_map]; exact h6) (List.getElem?_eq_getElem _) ?_)) (h2 _)
    have e3 : D.lst ((y.map eo).set j2 (eo x)) = eo (y.set j2 x) := by rw [eo_lis, List.map_set]
    rw [e3, put_1 h4]
    exact q
theorem wq_appC1 [Py α] {l : List (List α)} {rx : Res α} {rz : Res Int} {f : List (List α) → Out S L R} (hi : ρ[i]? = some (.cl (eo l))) (hz : EvR K W tb ρ rz) (h : EcR K W te ρ rx) (h2 : ∀ m : List (List α), Wo K W k u (ρ.set i (.cl (eo m))) e eL (f m)) :
    Wo K W k (tSeq (tDrop (tBM K "list" rAppend (tOp (rIx K) (tVar i) tb) (tCons te tNil))) u) ρ e eL (rz.calm.to fun z => rx.calm.to fun x => (modAt l z fun y => app y x).calm.to f) := by
  cases rz with
  | ok z =>
    cases rx with
    | ok x => exact wq_appC1_ hi hz h h2
    | _ => exact .inl rfl
  | _ => exact .inl rfl
theorem wq_setC1 [Py α] {l : List (List α)} {rx : Res α} {rz rw : Res Int} {f : List (List α) → Out S L R} (hi : ρ[i]? = some (.cl (eo l))) (h : EcR K W te ρ rx) (hz : EvR K W tb ρ rz) (hw : EvR K W tc ρ rw) (h2 : ∀ m : List (List α), Wo K W k u (ρ.set i (.cl (eo m))) e eL (f m)) :
    Wo K W k (tSeq (tAsg te (gSub (tOp (rIx K) (tVar i) tb) tc rSetL)) u) ρ e eL (rx.calm.to fun x => rz.calm.to fun z => rw.calm.to fun w => (modAt l z fun y => setAt y w x).calm.to f) := by
  cases rx with
  | ok x =>
    cases rz with
    | ok z =>
      cases rw with
      | ok w => exact wq_setC1_ hi h hz hw h2
      | _ => exact .inl rfl
    | _ => exact .inl rfl
  | _ => exact .inl rfl
/-- p[0][w] = e, p a pair with a list first -/
theorem wq_setP0 [Py α] [Py β] {p : List α × β} {rx : Res α} {rw : Res Int} {f : List α × β → Out S L R} (hi : ρ[i]? = some (.cl (eo p))) (h : EcR K W te ρ rx) (hw : EvR K W tc ρ rw) (h2 : ∀ m : List α × β, Wo K W k u (ρ.set i (.cl (eo m))) e eL (f m)) :
    Wo K W k (tSeq (tAsg te (gSub (tOp (rIx K) (tVar i) (tC (.int 0))) tc rSetL)) u) ρ e eL (rx.calm.to fun x => rw.calm.to fun w => (setAt p.1 w x).calm.to fun y => (Res.ok (y, p.2)).to f) := by
  cases rx with
  | ok x =>
    cases rw with
    | ok w =>
      show Wo K W k _ ρ e eL ((setAt p.1 w x).calm.to fun y => (Res.ok (y, p.2)).to f)
      cases e2 : setAt p.1 w x with
      | no => exact .inl rfl
      | ex z => exact .inl rfl
      | ok m =>
        obtain ⟨j2, h6, rfl⟩ := Option.map_eq_some_iff.mp (ofO_ok e2)
        have hj := (ixN_seq h6).2.1
        have hp : (eo p : D) = .tup [eo p.1, eo p.2] := rfl
        have hl : EvL K (tOp (rIx K) (tVar i) (tC (.int 0))) ρ i ([] ++ [0]) := el_ixT (π := []) (l := [eo p.1, eo p.2]) (j := 0) (k := 0) hi (el_var hi) (by rw [hp]; rfl) (ev_int (i := 0)) rfl
        refine wo_pre (fun P q => ws_seq (ws_setP (π := [0]) (l := p.1.map eo) (j := j2) (y0 := (p.1.map eo)[j2]'(by rw [List.length_map]; exact hj)) hi h hl (by rw [hp, ← eo_lis]; rfl) hw (by rw [List.length_map]; exact h6) (List.getElem?_eq_getElem _) ?_)) (h2 _)
        have e3 : D.put [0] (eo p) (.lst ((p.1.map eo).set j2 (eo x))) = eo (p.1.set j2 x, p.2) := by
          rw [hp, ← List.map_set, ← eo_lis]
          rfl
        rw [e3]
        exact q
    | _ => exact .inl rfl
  | _ => exact .inl rfl
theorem wq_appP0 [Py α] [Py β] {p : List α × β} {rx : Res α} {f : List α × β → Out S L R} (hi : ρ[i]? = some (.cl (eo p))) (h : EcR K W te ρ rx) (h2 : ∀ m : List α × β, Wo K W k u (ρ.set i (.cl (eo m))) e eL (f m)) :
    Wo K W k (tSeq (tDrop (tBM K "list" rAppend (tOp (rIx K) (tVar i) (tC (.int 0))) (tCons te tNil))) u) ρ e eL (rx.calm.to fun x => (app p.1 x).calm.to fun y => (Res.ok (y, p.2)).to f) := by
  cases rx with
  | ok x =>
    show Wo K W k _ ρ e eL ((app p.1 x).calm.to fun y => (Res.ok (y, p.2)).to f)
    cases e2 : app p.1 x with
    | no => exact .inl rfl
    | ex z => exact .inl rfl
    | ok m =>
      obtain ⟨h6, rfl⟩ := app_ok e2
      have hp : (eo p : D) = .tup [eo p.1, eo p.2] := rfl
      have hl : EvL K (tOp (rIx K) (tVar i) (tC (.int 0))) ρ i ([] ++ [0]) := el_ixT (π := []) (l := [eo p.1, eo p.2]) (j := 0) (k := 0) hi (el_var hi) (by rw [hp]; rfl) (ev_int (i := 0)) rfl
      refine wo_pre (fun P q => ws_seq (ws_appP (π := [0]) (l := p.1.map eo) hi hl (by rw [hp, ← eo_lis]; rfl) h (by rw [List.length_map]; exact h6) ?_)) (h2 _)
      have e3 : D.put [0] (eo p) (.lst (p.1.map eo ++ [eo x])) = eo (p.1 ++ [x], p.2) := by
        rw [hp, show p.1.map (eo : α → D) ++ [eo x] = (p.1 ++ [x]).map eo by rw [List.map_append]; rfl, ← eo_lis]
        rfl
      rw [e3]
      exact q
  | _ => exact .inl rfl
/-! whole trees -/
theorem wq_popC [Py α] {l : List α} {f : List α → Out S L R} (hi : ρ[i]? = some (.cl (eo l))) (h2 : ∀ m : List α, Wo K W k u (ρ.set i (.cl (eo m))) e eL (f m)) : Wo K W k (tSeq (tDrop (tBM0 K "list" rPop (tVar i))) u) ρ e eL ((popEnd l).to f) := by
  rw [eo_lis] at hi
  unfold popEnd
  split
  · exact .inl rfl
  · rename_i hl
    refine wo_pre (fun P q => ws_seq (ws_popP (π := []) hi (el_var hi) rfl (by rw [List.length_map]; omega) ?_)) (h2 _)
    rw [eo_lis, List.map_dropLast] at q
    exact q
theorem wq_popAtC_ [Py α] {l : List α} {z : Int} {f : List α → Out S L R} (hi : ρ[i]? = some (.cl (eo l))) (hz : EvR K W tb ρ (.ok z)) (h2 : ∀ m : List α, Wo K W k u (ρ.set i (.cl (eo m))) e eL (f m)) : Wo K W k (tSeq (tDrop (tBM K "list" rPopAt (tVar i) (tCons tb tNil))) u) ρ e eL ((popAt l z).to f) := by
  rw [eo_lis] at hi
  unfold popAt
  split
  · rename_i hl
    have hz : EvD K tb ρ (.int z) := hz
    rw [show z = ((z.toNat : Nat) : Int) by omega] at hz
    refine wo_pre (fun P q => ws_seq (ws_popAtP (π := []) (k := z.toNat) hi (el_var hi) rfl hz (by rw [List.length_map]; omega) (by omega) ?_)) (h2 _)
    rw [eo_lis] at q
    rw [← erase_map] at q
    exact q
  · exact .inl rfl
theorem wq_popAtC [Py α] {l : List α} {rz : Res Int} {f : List α → Out S L R} (hi : ρ[i]? = some (.cl (eo l))) (hz : EvR K W tb ρ rz) (h2 : ∀ m : List α, Wo K W k u (ρ.set i (.cl (eo m))) e eL (f m)) : Wo K W k (tSeq (tDrop (tBM K "list" rPopAt (tVar i) (tCons tb tNil))) u) ρ e eL (rz.calm.to fun z => (popAt l z).to f) := by
  cases rz with
  | ok z => exact wq_popAtC_ hi hz h2
  | _ => exact .inl rfl
theorem _root_.FS.FnG.imp {P : Program} {w : World} {mg : Str → Option Value} {base : Heap} {CX : CXT} {n : Nat} {x : Str} {ps : List Str} {Pr Pr' : PrD} (G : FnG P w K mg base CX n x ps (spD K Pr)) (h : ∀ ds R Z, Pr' ds R Z → Pr ds R Z) : FnG P w K mg base CX n x ps (spD K Pr') := by
  obtain ⟨f, fd, F, hm, hk, hb⟩ := G.ex
  have hs : ∀ vs T Q E, spD K Pr' vs T Q E → spD K Pr vs T Q E := by
    rintro vs T Q E ⟨M, H, ds, R, Z, o, i, p, q⟩
    exact ⟨M, H, ds, R, Z, o, i, h ds R Z p, q⟩
  refine ⟨f, fd, ⟨?_, ?_⟩, hm, hk, hb⟩
  · exact fun vs H Q E z => F.len vs H Q E (hs vs H Q E z)
  · intro A outer s H args us vs Q E a b c d z
    exact F.run A outer s H args us vs Q E a b c d (hs vs H Q E z)
/-! small rules -/
theorem er_tupc2 {a b : Int} : EvR K W (tTC K [a, b]) ρ (.ok ((a, b) : Int × Int)) := by
  have q := ev_tupc (K := K) (ρ := ρ) (ns := [a, b])
  exact q
theorem er_ldy [Py γ] {r : Res (List γ)} (h : EvR K W te ρ r) : EvR K W te ρ (r.bind fun a => .ok (a.map dy)) := by
  cases r with
  | ok l =>
    show EvD K te ρ (en (l.map dy))
    rw [en_lst, List.map_map]
    have h : EvD K te ρ (en l) := h
    rw [en_lst] at h
    exact h
  | ex z => exact h
  | no => trivial
theorem ec_ldy [Py γ] {r : Res (List γ)} (h : EcR K W te ρ r) : EcR K W te ρ (r.bind fun a => .ok (a.map dy)) := by
  cases r with
  | ok l =>
    show EvC K te ρ (eo (l.map dy))
    rw [eo_lis, List.map_map]
    have h : EvC K te ρ (eo l) := h
    rw [eo_lis] at h
    exact h
  | ex z => exact h
  | no => trivial
theorem eo_cl [Py γ] {r : Res (List γ)} (h : EcR K W te ρ r) : EoR K W te ρ r := by
  cases r with
  | ok l =>
    intro M T0 H T σ X Q en_ q
    have h : EvC K te ρ (eo l) := h
    rw [eo_lis] at h
    refine h M T0 H T σ X _ en_ fun v Lc H1 T1 s1 t1 e1 i1 => ?_
    obtain ⟨a, vs, Ls, rfl, rfl, hl⟩ := i1
    have e2 := e1.perm (show List.Perm ((a, HO.lst vs) :: Ls ++ X) (Ls ++ ((a, HO.lst vs) :: X)) from List.perm_middle.symm)
    obtain ⟨H2, s2, e3, h3⟩ := e2.closeAll
    have q2 := IsL.er _ _ (IsCL.is _ _ _ (hl.up s2) h3)
    rw [erL_oM] at q2
    exact q a vs H2 T1 (s1.trans s2) t1 e3 q2
  | ex z => exact h
  | no => trivial
theorem wp1 (h : isOw ρ[i]? = false) : Wp ρ [i] := fun x hx => by rw [List.mem_singleton.mp hx]; exact h
theorem wp2 (h : isOw ρ[i]? = false) (h2 : isOw ρ[j]? = false) : Wp ρ [i, j] := fun x hx => by
  rcases List.mem_cons.mp hx with rfl | hx
  · exact h
  · rw [List.mem_singleton.mp hx]; exact h2
theorem wp3 {m : Nat} (h : isOw ρ[i]? = false) (h2 : isOw ρ[j]? = false) (h3 : isOw ρ[m]? = false) : Wp ρ [i, j, m] := fun x hx => by
  rcases List.mem_cons.mp hx with rfl | hx
  · exact h
  · exact wp2 h2 h3 x hx
theorem eo_slF [Py α] {ra : Res (List α)} {rb : Res Int} (ha : EvR K W ta ρ ra) (hb : EvR K W tb ρ rb) : EoR K W (tSl (rSlL K) ta (tPart tb) tNoPart) ρ (ra.bind fun a => rb.bind fun b => slFrom a b) := by
  cases ra with
  | ok a =>
    cases rb with
    | ok b =>
      show EoR K W _ ρ (slFrom a b)
      unfold slFrom
      split
      · rename_i hb0
        have ha : EvD K ta ρ (en a) := ha
        rw [en_lst] at ha
        have hb : EvD K tb ρ (.int b) := hb
        rw [show b = ((b.toNat : Nat) : Int) by omega] at hb
        have q := ev_slF ha rfl hb
        rw [← List.map_drop] at q
        exact q
      · trivial
    | ex z => exact fun M T0 H T σ X Q e q => ha M T0 H T σ X _ e fun v H1 T1 s1 t1 e1 i1 => hb M T0 H1 T1 σ X _ e1 fun od H' T' s' t' e' hx => q od H' T' (s1.trans s') (t1.trans t') e' (hx.dn t1)
    | no => trivial
  | ex z => exact fun M T0 H T σ X Q e q => ha M T0 H T σ X _ e q
  | no => trivial
theorem eo_slT [Py α] {ra : Res (List α)} {rb : Res Int} (ha : EvR K W ta ρ ra) (hb : EvR K W tb ρ rb) : EoR K W (tSl (rSlL K) ta tNoPart (tPart tb)) ρ (ra.bind fun a => rb.bind fun b => slTo a b) := by
  cases ra with
  | ok a =>
    cases rb with
    | ok b =>
      show EoR K W _ ρ (slTo a b)
      unfold slTo
      split
      · rename_i hb0
        have ha : EvD K ta ρ (en a) := ha
        rw [en_lst] at ha
        have hb : EvD K tb ρ (.int b) := hb
        rw [show b = ((b.toNat : Nat) : Int) by omega] at hb
        have q := ev_slT ha rfl hb
        rw [← List.map_take] at q
        exact q
      · trivial
    | ex z => exact fun M T0 H T σ X Q e q => ha M T0 H T σ X _ e fun v H1 T1 s1 t1 e1 i1 => hb M T0 H1 T1 σ X _ e1 fun od H' T' s' t' e' hx => q od H' T' (s1.trans s') (t1.trans t') e' (hx.dn t1)
    | no => trivial
  | ex z => exact fun M T0 H T σ X Q e q => ha M T0 H T σ X _ e q
  | no => trivial
theorem er_addS {ra rb : Res Str} (ha : EvR K W ta ρ ra) (hb : EvR K W tb ρ rb) : EvR K W (tOp (rAddA K) ta tb) ρ (ra.bind fun a => rb.bind fun b => catS a b) := er_op (fun a b c h => by
  obtain ⟨hp, rfl⟩ := if_ok h
  exact rv_addS hp) (fun _ _ _ h => if_ex h) ha hb
/-! a def -/
/-- the values of a def's own names at its entry -/
theorem fn_w {N : List Str} {t : TS} {E : XK} {m : τ → Res R} {k : R → Sl} [EncA τ] {r0 : Res R} {b : τ → Out S L R} {eS : τ → S → Rho} {eLL : τ → L → Rho} (ρ0 : τ → Rho) (he : ∀ t, ρ0 t = (ea t).map .im ++ List.replicate (N.length - (ea t).length) .no)
    (h : ∀ a, Wo K (upX E) k t (ρ0 a) (eS a) (eLL a) (b a)) (hm : ∀ a, m a = (b a).fin r0) (h0 : r0 = .no ∨ ∃ r, r0 = .ok r ∧ k r = .im .non) :
    ∀ ds R' Z, fnP k m ds R' Z → Ws K (upX E) t (ds.map .im ++ List.replicate (N.length - ds.length) .no) { nx := fun _ => R' (.im .non), rt := R', ex := fun _ => Z } := by
  rintro ds R' Z ⟨a, rfl, q⟩
  rw [← he a]
  have hb := h a
  rw [hm] at q
  rcases hb with hb | hb
  · rw [hb] at q
    exact q.elim
  · cases ho : b a with
    | nx s =>
      rw [ho] at q hb
      rcases h0 with rfl | ⟨r, rfl, hr⟩
      · exact q.elim
      · have q : R' (k r) := q
        rw [hr] at q
        exact ws_mono hb (fun _ _ => q) (fun _ q => q.elim) (fun _ q => q.elim) (fun _ q => q.elim) (fun _ _ q => q.elim)
    | rt r =>
      rw [ho] at q hb
      refine ws_mono hb (fun _ q => q.elim) (fun v hv => ?_) (fun _ q => q.elim) (fun _ q => q.elim) (fun _ _ q => q.elim)
      have hv : v = k r := hv
      rw [hv]
      exact q
    | ex z =>
      rw [ho] at q hb
      refine ws_mono hb (fun _ q => q.elim) (fun _ q => q.elim) (fun _ q => q.elim) (fun _ q => q.elim) (fun _ z' hz => ?_)
      have hz : z' = enX z := hz
      rw [hz]
      exact q
    | bk l => rw [ho] at q; exact q.elim
    | ct l => rw [ho] at q; exact q.elim
    | no => rw [ho] at q; exact q.elim
theorem fn_len [EncA τ] {m : τ → Res R} {k : R → Sl} {n : Nat} (h : ∀ a : τ, (ea a).length = n) : ∀ ds R' Z, fnP k m ds R' Z → ds.length = n := by
  rintro ds R' Z ⟨a, rfl, _⟩
  exact h a
end
end FS
set_option Elab.async false
set_option linter.all false
set_option maxRecDepth 100000
set_option maxHeartbeats 4000000
set_option exponentiation.threshold 20000
/-! Instances. -/
namespace FS
open PySem PySem.Spec PyProof.Rows L2
open Py (dy un)
open Enc (en)
open EncA (ea)

section
variable [Cm] {K : PySem.W.Frag} {W : L2.WX} {ρ ρ' : Rho} {te ta tb tc to_ : TE} {tt tu : TT} {t u : TS} {tr : TA} {wi : TI} {g : TG} {i j : Nat} {α β γ τ S S1 S' L L' R : Type} {k : R → Sl} {e : S → Rho} {e1 : S1 → Rho} {eL : L → Rho}
theorem en_ins [Ins α] {a : α} : (en a : D) = .ins (Cm.at_ (Ins.nm α)) (Cm.fs (Ins.nm α)) (enL (Ins.l a)) := by
  show enD (dy a) = _
  rw [Ins.ins]
  rfl
theorem eo_ins [Ins α] {a : α} : (eo a : D) = .ins (Cm.at_ (Ins.nm α)) (Cm.fs (Ins.nm α)) (eoL (Ins.l a)) := by
  show eoD (dy a) = _
  rw [Ins.ins]
  rfl
theorem eoL_get {l : List Dy} {j : Nat} {d : Dy} (h : l[j]? = some d) : (eoL l)[j]? = some (eoD d) := by
  rw [eoL_map, List.getElem?_map, h]
  rfl
theorem enL_get {l : List Dy} {j : Nat} {d : Dy} (h : l[j]? = some d) : (enL l)[j]? = some (enD d) := by
  rw [enL_map, List.getElem?_map, h]
  rfl
/-- o.f -/
theorem er_fld [Ins α] [Py β] {f : Str} {ns : List Str} {get : α → β} {ra : Res α} (hf : Cm.fs (Ins.nm α) = ns) (hj : fldAt ns f = some j) (hg : ∀ a, (Ins.l a)[j]? = some (dy (get a))) (c : Cls K (Cm.at_ (Ins.nm α))) (n : NoAttr K (Cm.at_ (Ins.nm α)) f) (ha : EvR K W ta ρ ra) :
    EvR K W (tFld K ta f) ρ (ra.bind fun a => .ok (get a)) := by
  cases ra with
  | ok a =>
    have ha : EvD K ta ρ (en a) := ha
    rw [en_ins, hf] at ha
    exact ev_fld ha hj (enL_get (hg a)) c n
  | ex z => exact fun M T0 H T σ X Q e q => ha M T0 H T σ X _ e q
  | no => trivial
/-- the receiver of a method ahead of the arguments -/
theorem ea_recv [Ins α] [EncA τ] {m : Str} {ns : List Str} {ra : Res α} {rr : Res τ} (hf : Cm.fs (Ins.nm α) = ns) (hm : m ∉ ns) (ha : EvR K W ta ρ ra) (hr : EaR K W tr ρ rr) : EaR K W (tRecv (Cm.at_ (Ins.nm α)) m ta tr) ρ (ra.bind fun a => rr.bind fun t => .ok (a, t)) := by
  cases ra with
  | ok a =>
    have ha : EvD K ta ρ (en a) := ha
    have e2 := en_ins (a := a)
    rw [hf] at e2
    rw [e2] at ha
    cases rr with
    | ok t =>
      have q := eva_recv (m := m) ha hm hr
      rw [← e2] at q
      exact q
    | ex z =>
      intro M T0 H T σ X Q e q
      refine ha M T0 H T σ X _ e fun v H1 T1 s1 t1 e1 i1 => ?_
      obtain ⟨a', dx, vs, rfl, h1, h2⟩ := i1
      exact ⟨a', dx, _, rfl, e1.same _ _ h1, look_none hm, hr M T0 H1 T1 σ X _ e1 fun od H' T' s' t' e' hx => q od H' T' (s1.trans s') (t1.trans t') e' (hx.dn t1)⟩
    | no => trivial
  | ex z => exact fun M T0 H T σ X Q e q => ha M T0 H T σ X _ e q
  | no => trivial
/-- methods that do not raise -/
theorem er_meth [Ins α] [EncA τ] [Enc γ] {mn : Str} {ns : List Str} {Ex : XK} {m : α × τ → Res γ} {ra : Res α} {rr : Res τ} (hf : Cm.fs (Ins.nm α) = ns) (hm : mn ∉ ns) (ha : EvR K W ta ρ ra) (hr : EaR K W tr ρ rr) :
    EvR K W (tMeth (Cm.at_ (Ins.nm α)) mn (spD K (fnP kIm m)) [] Ex ta tr) ρ ((ra.bind fun a => rr.bind fun t => .ok (a, t)).bind m).calm := by
  cases ra with
  | ok a =>
    cases rr with
    | ok t =>
      show EvR K W _ ρ (m (a, t)).calm
      cases em : m (a, t) with
      | ok c =>
        have ha : EvD K ta ρ (en a) := ha
        have e2 := en_ins (a := a)
        rw [hf] at e2
        rw [e2] at ha
        exact ev_meth ha hm hr ⟨(a, t), by rw [← e2]; exact rfl, by rw [em]; exact rfl⟩
      | ex z => trivial
      | no => trivial
    | ex z => trivial
    | no => trivial
  | ex z => trivial
  | no => trivial
theorem ec_methR [Ins α] [EncA τ] [Py γ] {mn : Str} {ns : List Str} {Ex : XK} {m : α × τ → Res γ} {ra : Res α} {rr : Res τ} (hf : Cm.fs (Ins.nm α) = ns) (hm : mn ∉ ns) (ha : EvR K W ta ρ ra) (hr : EaR K W tr ρ rr) :
    EcR K W (tMeth (Cm.at_ (Ins.nm α)) mn (spD K (fnP kCl m)) [] Ex ta tr) ρ ((ra.bind fun a => rr.bind fun t => .ok (a, t)).bind m).calm := by
  cases ra with
  | ok a =>
    cases rr with
    | ok t =>
      show EcR K W _ ρ (m (a, t)).calm
      cases em : m (a, t) with
      | ok c =>
        have ha : EvD K ta ρ (en a) := ha
        have e2 := en_ins (a := a)
        rw [hf] at e2
        rw [e2] at ha
        exact ec_meth ha hm hr ⟨(a, t), by rw [← e2]; exact rfl, by rw [em]; exact rfl⟩
      | ex z => trivial
      | no => trivial
    | ex z => trivial
    | no => trivial
  | ex z => trivial
  | no => trivial
/-- what a class keeps that is made by m -/
def fnMk [EncA τ] [Py γ] (m : τ → Res γ) : List D → (D → Prop) → (Exn → Prop) → Prop := fun ds R Z => ∃ t, ds = ea t ∧ match m t with
  | .ok r => R (eo r)
  | .ex z => Z (enX z)
  | .no => False
theorem ec_mkR [EncA τ] [Py γ] {C : Addr} {m : τ → Res γ} {rr : Res τ} (hr : EaR K W tr ρ rr) : EcR K W (tMakeW C (spMk K C (fnMk m)) W tr) ρ (rr.bind m) := by
  cases rr with
  | ok t =>
    show EcR K W _ ρ (m t)
    cases em : m t with
    | ok c => exact ec_mkX hr ⟨t, rfl, by rw [em]⟩
    | ex z => exact ez_mkX hr ⟨t, rfl, by rw [em]⟩
    | no => trivial
  | ex z => exact fun M T0 H T σ X Q e q => hr M T0 H T σ X _ e q
  | no => trivial
theorem ec_mkCalm [EncA τ] [Py γ] {C : Addr} {Ex : XK} {m : τ → Res γ} {rr : Res τ} (hr : EaR K W tr ρ rr) : EcR K W (tMake C (spMk K C (fnMk m)) [] Ex tr) ρ (rr.bind m).calm := by
  cases rr with
  | ok t =>
    show EcR K W _ ρ (m t).calm
    cases em : m t with
    | ok c => exact ec_make hr ⟨t, rfl, by rw [em]⟩
    | ex z => trivial
    | no => trivial
  | ex z => trivial
  | no => trivial
end
end FS
set_option Elab.async false
set_option linter.all false
set_option maxRecDepth 100000
set_option maxHeartbeats 4000000
set_option exponentiation.threshold 20000
/-! Instances that are being made. -/
namespace FS
open PySem PySem.Spec PyProof.Rows L2
open Py (dy un)
open Enc (en)
open EncA (ea)

/-- a part of an instance -/
def slS [Cm] (a : Addr) (C : String) (ns : List Str) (l : List Dy) : Sl := .cl (.slf a (Cm.at_ C) ns (eoL l))
def slP [Cm] (C : String) (ns : List Str) (l : List Dy) : Sl := .im (.ins (Cm.at_ C) ns (enL l))
section
variable [Cm] {K : PySem.W.Frag} {W : L2.WX} {ρ ρ' : Rho} {te ta tb tc to_ : TE} {tt tu : TT} {t u : TS} {tr : TA} {wi : TI} {g : TG} {i j : Nat} {α β γ τ S S1 S' L L' R : Type} {k : R → Sl} {e : S → Rho} {e1 : S1 → Rho} {eL : L → Rho} {C : String} {ns : List Str} {l : List Dy} {f : Str}
theorem eoL_len : ∀ l : List Dy, (eoL l).length = l.length := fun l => by rw [eoL_map, List.length_map]
theorem eoL_app (l m : List Dy) : eoL (l ++ m) = eoL l ++ eoL m := by rw [eoL_map, eoL_map, eoL_map, List.map_append]
theorem eoL_set (l : List Dy) (j : Nat) (d : Dy) : eoL (l.set j d) = (eoL l).set j (eoD d) := by rw [eoL_map, eoL_map, List.map_set]
theorem enL_len : ∀ l : List Dy, (enL l).length = l.length := fun l => by rw [enL_map, List.length_map]
theorem enL_app (l m : List Dy) : enL (l ++ m) = enL l ++ enL m := by rw [enL_map, enL_map, enL_map, List.map_append]
theorem enL_set (l : List Dy) (j : Nat) (d : Dy) : enL (l.set j d) = (enL l).set j (enD d) := by rw [enL_map, enL_map, List.map_set]
/-- self.f = e -/
theorem wq_fldS_ {a : Addr} [Py α] {r : Res α} {g : α → Out S L R} (hi : ρ[i]? = some (slS a C ns l)) (h : EcR K W te ρ r) (c : Cls K (Cm.at_ C)) (n : NoAttr K (Cm.at_ C) f) (hf : f ∉ ns) (hl : ns.length = l.length) (hz : ns.length < 1000) (h2 : ∀ x : α, Wo K W k u (ρ.set i (slS a C (ns ++ [f]) (l ++ [dy x]))) e eL (g x)) :
    Wo K W k (tSeq (sFld K (tVar i) te f) u) ρ e eL (r.to g) := by
  cases r with
  | ok x =>
    refine wo_pre (fun P q => ws_seq (ws_fld hi h (by rw [eoL_len]; exact hl) hf hz c n ?_)) (h2 x)
    have e2 : eoL l ++ [eo x] = eoL (l ++ [dy x]) := by rw [eoL_app]; rfl
    rw [e2]
    exact q
  | ex z => exact .inr (ws_seq fun M T0 H T σ Dn en_ k_ => h M T0 H T σ [] _ en_ fun od H' T' s' t' e' hx => k_.ex ρ σ _ _ _ od H' T' rfl s' e' (hx.dn en_.t0))
  | no => exact .inl rfl
/-- self.f, read while it is made -/
theorem er_fldP [Py α] {x : α} (hi : ρ[i]? = some (slP C ns l)) (c : Cls K (Cm.at_ C)) (n : NoAttr K (Cm.at_ C) f) (hj : fldAt ns f = some j) (hx : l[j]? = some (dy x)) : EvR K W (tFld K (tVar i) f) ρ (.ok x) :=
  ev_fld (ev_var hi) hj (enL_get hx) c n
theorem ws_appSZ {d : D} {π : List Nat} {m : List D} {z : Exn} {P : Pst} (hi : ρ[i]? = some (.cl d)) (hp : EvL K to_ ρ i π) (hd : D.at π d = some (.lst m)) (h : EvZ K W te ρ z) (hz : P.ex ρ z) : Ws K W (tDrop (tBM K "list" rAppend to_ (tCons te tNil))) ρ P := fun M T0 H T σ Dn en_ k_ =>
  hp M T0 H T σ [] _ en_ fun u H1 T1 s1 t1 e1 ⟨v, n1, n2⟩ => by
    obtain ⟨v', u', Ls, L0, h1, ⟨a, vs, Lt, eu, eL, hl⟩, h3, h4, _⟩ := e1.spot hi hd
    rw [n1] at h1
    cases h1
    have eu' := Nav.eq n2 h3
    subst eu'
    subst eu
    have hT : T1 a = some (.lst vs) := h4.here rfl (a, .lst vs) (by rw [eL]; exact List.mem_cons_self)
    exact ⟨.inl ⟨rfl, vs, .inl (.inl hT)⟩, h M T0 H1 T1 σ [] _ e1 fun od H' T' s' t' e' hx => k_.ex ρ σ _ _ _ od H' T' hz (s1.trans s') e' (hx.dn (en_.t0.trans t1))⟩
/-- self.f.append(e) -/
theorem wq_appS {a : Addr} [Py α] {m : List α} {r : Res α} {g : List α → Out S L R} (hi : ρ[i]? = some (slS a C ns l)) (h : EcR K W te ρ r) (c : Cls K (Cm.at_ C)) (n : NoAttr K (Cm.at_ C) f) (hj : fldAt ns f = some j) (hx : l[j]? = some (dy m)) (h2 : ∀ m' : List α, Wo K W k u (ρ.set i (slS a C ns (l.set j (dy m')))) e eL (g m')) :
    Wo K W k (tSeq (tDrop (tBM K "list" rAppend (tFld K (tVar i) f) (tCons te tNil))) u) ρ e eL (r.to fun x => (app m x).to g) := by
  have hl0 := (List.getElem?_eq_some_iff.mp hx).1
  have hjn := fldAt_lt hj
  have hat : D.at [j] (.slf a (Cm.at_ C) ns (eoL l)) = some (.lst (m.map eo)) := by
    show (if j < ns.length then ((eoL l)[j]?).bind (D.at []) else none) = _
    rw [if_pos hjn, eoL_get hx, ← eo_lis]
    rfl
  have hp := el_self (K := K) hi hj (by rw [eoL_len]; exact hl0) c n
  cases r with
  | ok x =>
    show Wo K W k _ ρ e eL ((app m x).to g)
    cases e2 : app m x with
    | ok m' =>
      obtain ⟨h3, rfl⟩ := app_ok e2
      refine wo_pre (fun P q => ws_seq (ws_appP (π := [j]) hi hp hat h (by rw [List.length_map]; exact h3) ?_)) (h2 _)
      have e3 : D.put [j] (.slf a (Cm.at_ C) ns (eoL l)) (.lst (m.map eo ++ [eo x])) = .slf a (Cm.at_ C) ns (eoL (l.set j (dy (m ++ [x])))) := by
        show D.slf a (Cm.at_ C) ns ((eoL l).modify j fun d => D.put [] d (.lst (m.map eo ++ [eo x]))) = _
        rw [modify_set _ (eoL_get hx), eoL_set]
        congr 2
        show D.lst (m.map eo ++ [eo x]) = eo (m ++ [x])
        rw [eo_lis, List.map_append]
        rfl
      rw [e3]
      exact q
    | ex z => exact (app_ex e2).elim
    | no => exact .inl rfl
  | ex z => exact .inr (ws_seq (ws_appSZ hi hp hat h rfl))
  | no => exact .inl rfl
/-- an __init__ -/
theorem fn_wI {N : List Str} {t : TS} {E : XK} [EncA τ] [Ins γ] {m : τ → Res γ} {k : R → Sl} {b : τ → Out γ L R} {eS : Addr → τ → γ → Rho} {eLL : Addr → τ → L → Rho} (ρ0 : Addr → τ → Rho) (hfs : Cm.fs (Ins.nm γ) = ns)
    (he : ∀ a t, ρ0 a t = slS a (Ins.nm γ) [] [] :: ((ea t).map .im ++ List.replicate (N.length - ((ea t).length + 1)) .no)) (hs : ∀ a t s, (eS a t s)[0]? = some (slS a (Ins.nm γ) ns (Ins.l s)))
    (h : ∀ a x, Wo K (upX E) k t (ρ0 a x) (eS a x) (eLL a x) (b x)) (hm : ∀ x, m x = (b x).made) :
    ∀ a ds R' Z, fnMk m ds R' Z → Ws K (upX E) t (.cl (.slf a (Cm.at_ (Ins.nm γ)) [] []) :: (ds.map .im ++ List.replicate (N.length - (ds.length + 1)) .no)) { nx := fun ρ' => ∃ ns l, ρ'[0]? = some (.cl (.slf a (Cm.at_ (Ins.nm γ)) ns l)) ∧ R' (.ins (Cm.at_ (Ins.nm γ)) ns l), ex := fun _ => Z } := by
  rintro a ds R' Z ⟨x, rfl, q⟩
  have e1 := he a x
  have hb := h a x
  rw [e1] at hb
  rw [hm] at q
  rcases hb with hb | hb
  · rw [hb] at q
    exact q.elim
  · cases ho : b x with
    | nx s =>
      rw [ho] at q hb
      refine ws_mono hb (fun ρ' hρ => ?_) (fun _ q => q.elim) (fun _ q => q.elim) (fun _ q => q.elim) (fun _ _ q => q.elim)
      have hρ : ρ' = eS a x s := hρ
      subst hρ
      refine ⟨ns, _, hs a x s, ?_⟩
      have q : R' (eo s) := q
      rw [eo_ins, hfs] at q
      exact q
    | ex z =>
      rw [ho] at q hb
      refine ws_mono hb (fun _ q => q.elim) (fun _ q => q.elim) (fun _ q => q.elim) (fun _ q => q.elim) (fun _ z' hz => ?_)
      have hz : z' = enX z := hz
      rw [hz]
      exact q
    | rt r => rw [ho] at q; exact q.elim
    | bk l => rw [ho] at q; exact q.elim
    | ct l => rw [ho] at q; exact q.elim
    | no => rw [ho] at q; exact q.elim
theorem fnMk_len [EncA τ] [Py γ] {m : τ → Res γ} {n : Nat} (h : ∀ a : τ, (ea a).length + 1 = n) : ∀ ds R' Z, fnMk m ds R' Z → ds.length + 1 = n := by
  rintro ds R' Z ⟨a, rfl, _⟩
  exact h a
instance {C : String} : Enc (Cl C) := ⟨fun _ => .obj (Cm.at_ C)⟩
end
end FS
set_option Elab.async false
set_option linter.all false
set_option maxRecDepth 100000
set_option maxHeartbeats 4000000
set_option exponentiation.threshold 20000
/-! Errors that are caught; more of lists. -/
namespace FS
open PySem PySem.Spec PyProof.Rows L2
open Py (dy un)
open Enc (en)
open EncA (ea)

/-- a try: its body, its suite -/
def tTry (K : PySem.W.Frag) (c : Value) (i : Nat) (tb : WX → TS) (ts : Addr → Value → Option Addr → TS) (Wout : WX) : TS := fun Dn σ H => tb (wAs K c i ts Wout Dn) Dn σ H
theorem ps_tryN {X : Cx} {x n : Str} {c : Value} {i : Nat} {body suite : List Stmt} {b₀ : Stmt} {np pos pos' : Pos} {tb : WX → TS} {ts : Addr → Value → Option Addr → TS} {Wout : WX}
    (hs : X.stack = X.env :: X.outer) (hf : X.env.frame = some X.env.locals) (hN : X.N.Nodup) (hi : X.N[i]? = some n) (hln : X.env.kindOf n = some .local) (hc : Names X x c) (tk : L2N.Takes X Wout)
    (hb : ∀ (W : WX) (pn : List (Addr × Obj)) (xe : Value → Shared → Prop), L2N.Takes (X.tr pn xe) W → PassesOwn (model X.prog X.w) X.A X.env xe → PSs (X.tr pn xe) body (tb W))
    (hsu : ∀ (a : Addr) (oe : Obj) (cls : Value) (d : Option Addr) (pn : List (Addr × Obj)), L2N.Zn cls d oe → (∃ vs, oe.data = .fields vs) → PSs (X.suite a ((a, oe) :: pn)) (b₀ :: suite) (ts a cls d)) :
    PS X (.Try body [.ExceptHandler (some (.Name x np)) (some n) (b₀ :: suite) pos'] [] [] pos) (tTry X.K c i tb ts Wout) := L2N.ps_try_as hs hf hN hi hln hc tk hb hsu
theorem ws_tryN {K : PySem.W.Frag} {E : L2.WX} {ρ : Rho} {P : Pst} {i : Nat} {tb : WX → TS} {ts : Addr → Value → Option Addr → TS} {c : Value} {Wout : WX} {Pc : Rho → Exn → Prop} (hb : ∀ W, Ws K W (tb W) ρ { P with ex := Pc })
    (hc : ∀ ρ' z, Pc ρ' z → PySem.W.exmOne K z.1 c = some true ∧ ∀ a od, Ws K E (ts a z.1 od) (ρ'.set i (.im (.exc a od z.2.1 z.2.2))) { nx := fun ρ2 => P.nx (ρ2.set i .no), rt := P.rt, bk := fun ρ2 => P.bk (ρ2.set i .no), ct := fun ρ2 => P.ct (ρ2.set i .no) }) :
    Ws K E (tTry K c i tb ts Wout) ρ P := ws_tryA hb hc

section
variable {K : PySem.W.Frag} {E : L2.WX} {ρ : Rho} {P : Pst} {to : TE} {tz : TS} {d : D} {l : List D} {i : Nat} {π : List Nat}
/-- PATH.clear() -/
theorem ws_clearP (e : ρ[i]? = some (.cl d)) (hp : EvL K to ρ i π) (hd : D.at π d = some (.lst l)) (h : P.nx (ρ.set i (.cl (D.put π d (.lst []))))) : Ws K E (tDrop (tBM0 K "list" rClear to)) ρ P := fun M T0 H T σ Dn en k =>
  hp M T0 H T σ [] _ en fun u H1 T1 s1 t1 e1 ⟨v, n1, n2⟩ => by
    obtain ⟨v', u', Ls, L0, h1, ⟨a, vs, Lt, eu, eL, hl⟩, h3, h4, h5⟩ := e1.spot e hd
    rw [n1] at h1
    cases h1
    cases Nav.eq n2 h3
    subst eu
    subst eL
    have hT : T1 a = some (.lst vs) := h4.here rfl (a, .lst vs) List.mem_cons_self
    refine ⟨.inl ⟨rfl, vs, .inl (.inl hT)⟩, a, vs, rfl, rfl, hT, k.nx _ σ H1 _ h s1 ?_⟩
    refine h5 H1 _ [] (.lst []) ((a, .lst []) :: []) (Same.refl _) ?_ ⟨a, [], [], rfl, rfl, rfl, rfl⟩
    have g6 := EnX.write (o' := .lst []) h4
    exact g6.sub (List.Sublist.cons_cons _ (List.sublist_append_right _ _))
theorem wq_clearP (e : ρ[i]? = some (.cl d)) (hp : EvL K to ρ i π) (hd : D.at π d = some (.lst l)) (h : Ws K E tz (ρ.set i (.cl (D.put π d (.lst [])))) P) : Ws K E (tSeq (tDrop (tBM0 K "list" rClear to)) tz) ρ P := ws_seq (ws_clearP e hp hd h)
theorem wq_popP (e : ρ[i]? = some (.cl d)) (hp : EvL K to ρ i π) (hd : D.at π d = some (.lst l)) (hl0 : 0 < l.length) (h : Ws K E tz (ρ.set i (.cl (D.put π d (.lst l.dropLast)))) P) : Ws K E (tSeq (tDrop (tBM0 K "list" rPop to)) tz) ρ P := ws_seq (ws_popP e hp hd hl0 h)
theorem wq_setP {te tb : TE} {x : D} {j : Nat} {k : Int} {y0 : D} (e : ρ[i]? = some (.cl d)) (hv : EvC K te ρ x) (hp : EvL K to ρ i π) (hd : D.at π d = some (.lst l)) (hb : EvD K tb ρ (.int k)) (hj : ixN l.length k = some j) (h0 : l[j]? = some y0) (h : Ws K E tz (ρ.set i (.cl (D.put π d (.lst (l.set j x))))) P) :
    Ws K E (tSeq (tAsg te (gSub to tb rSetL)) tz) ρ P := ws_seq (ws_setP e hv hp hd hb hj h0 h)
end
/-- an error that is handled -/
structure Xe [Cm] (a : Addr) (c : Value) (d : Option Addr) where
  z : Xn
  h : c = .ref (Cm.at_ z.1)
instance [Cm] {a : Addr} {c : Value} {d : Option Addr} : Enc (Xe a c d) := ⟨fun x => .exc a d (enX x.z).2.1 (enX x.z).2.2⟩
section
variable [Cm] {K : PySem.W.Frag} {W : L2.WX} {ρ ρ' : Rho} {te ta tb tc to_ : TE} {tt tu : TT} {t u : TS} {tr : TA} {wi : TI} {g : TG} {i j : Nat} {α β γ τ S S1 S' L L' R : Type} {k : R → Sl} {e : S → Rho} {e1 : S1 → Rho} {eL : L → Rho} {a : Addr} {c : Value} {d : Option Addr} {x : Xe a c d} {errs : List String}
theorem er_isX {C : String} (hi : ρ[i]? = some (.im (en x))) (hE : ∀ y ∈ errs, ExcC K (Cm.at_ y)) (hk : ∀ y ∈ errs, PySem.W.kitOne K (.ref (Cm.at_ y)) (.ref (Cm.at_ C)) = some (y == C)) :
    EvR K W (tCB (rIsX K a c d) (tCons (tVar i) (tCons (tC (.ref (Cm.at_ C))) tNil))) ρ (isX errs C x.z) := by
  obtain ⟨z, rfl⟩ := x
  show EvR K W _ ρ (if z.1 ∈ errs then .ok (z.1 == C) else .no)
  by_cases hz : z.1 ∈ errs
  · rw [if_pos hz]
    exact ev_isX hi ev_obj rfl (hE _ hz) (hk _ hz)
  · rw [if_neg hz]
    trivial
theorem er_isXV (hi : ρ[i]? = some (.im (en x))) (hE : ∀ y ∈ errs, ExcC K (Cm.at_ y)) (hk : ∀ y ∈ errs, PySem.W.kitOne K (.ref (Cm.at_ y)) (.type "ValueError") = some true) :
    EvR K W (tCB (rIsX K a c d) (tCons (tVar i) (tCons (tC (.ty "ValueError")) tNil))) ρ (if x.z.1 ∈ errs then .ok true else .no) := by
  obtain ⟨z, rfl⟩ := x
  by_cases hz : z.1 ∈ errs
  · rw [if_pos hz]
    exact ev_isX hi ev_ty rfl (hE _ hz) (hk _ hz)
  · rw [if_neg hz]
    trivial
theorem look_mem {β : Type} : ∀ {l : List (String × β)} {s : String} {b : β}, l.lookup s = some b → (s, b) ∈ l
  | [], s, b, h => by cases h
  | (s', b') :: l, s, b, h => by
    rw [List.lookup_cons] at h
    by_cases e : s = s'
    · subst e
      simp at h
      subst h
      exact List.mem_cons_self
    · have e2 : (s == s') = false := by simpa using e
      rw [e2] at h
      exact List.mem_cons_of_mem _ (look_mem h)
theorem er_xf {f : Str} {cs : List (String × Nat × Nat)} (hi : ρ[i]? = some (.im (en x))) (h : ∀ y j n, (y, j, n) ∈ cs → ExcC K (Cm.at_ y) ∧ PySem.W.findIn K (.ref (Cm.at_ y)) f = some none ∧ (Cm.fs y).reverse ≠ [] ∧ j < n ∧ fldAt (Cm.fs y).reverse f = some (n - 1 - j)) :
    EvR K W (tXf2 K a c d f i) ρ (xf cs x.z) := by
  obtain ⟨z, rfl⟩ := x
  show EvR K W _ ρ (xf cs z)
  unfold xf
  cases el : cs.lookup z.1 with
  | none => trivial
  | some p =>
    obtain ⟨jj, n⟩ := p
    show EvR K W _ ρ (if z.2.length = n then ofO z.2[jj]? else .no)
    by_cases hn : z.2.length = n
    · rw [if_pos hn]
      obtain ⟨h1, h2, h3, h4, h5⟩ := h _ _ _ (look_mem el)
      cases eg : z.2[jj]? with
      | none => trivial
      | some v =>
        refine ev_xf (ds := (enX z).2.2) (d := enD v) hi h3 h5 ?_ h1 h2
        show (z.2.map enD).reverse[n - 1 - jj]? = _
        rw [List.getElem?_reverse (by rw [List.length_map]; omega), List.length_map, hn, show n - 1 - (n - 1 - jj) = jj by omega, List.getElem?_map, eg]
        rfl
    · rw [if_neg hn]
      trivial
/-! the body of a try: nothing is assigned ahead of what raises -/
def postX (k : R → Sl) (e : S → Rho) (eL : L → Rho) (ρ0 : Rho) : Out S L R → Pst
  | .ex z => { nx := fun _ => False, ex := fun ρ' z' => ρ' = ρ0 ∧ z' = enX z }
  | o => post k e eL o
def Wx (K : PySem.W.Frag) (W : L2.WX) (k : R → Sl) (ts : TS) (ρ : Rho) (e : S → Rho) (eL : L → Rho) (o : Out S L R) : Prop := o = .no ∨ Ws K W ts ρ (postX k e eL ρ o)
theorem wx_ret [Enc R] {r : Res R} (h : EvR K W te ρ r) : Wx K W kIm (tRet te) ρ e eL (r.to .rt) := by
  cases r with
  | ok a => exact .inr (ws_ret h rfl)
  | ex z => exact .inr (ws_retZ h ⟨rfl, rfl⟩)
  | no => exact .inl rfl
theorem wx_retC [Py R] {r : Res R} (h : EcR K W te ρ r) : Wx K W kCl (tRet te) ρ e eL (r.to .rt) := by
  cases r with
  | ok a => exact .inr (ws_retC h rfl)
  | ex z => exact .inr (ws_retZ h ⟨rfl, rfl⟩)
  | no => exact .inl rfl
theorem wx_is {o o' : Out S L R} (h : Wx K W k t ρ e eL o) (q : o = o') : Wx K W k t ρ e eL o' := q ▸ h
theorem wx_of {s : S} (h : Wo K W k t ρ e eL (.nx s)) : Wx K W k t ρ e eL (.nx s) := h
theorem wx_asg_ [Enc α] {r : Res α} {f : α → S} (h : EvR K W te ρ r) (h2 : ∀ a, Wo K W k u (ρ.set i (.im (en a))) e eL (.nx (f a))) : Wx K W k (tSeq (tAsg te (gName i)) u) ρ e eL (r.to fun a => .nx (f a)) := by
  cases r with
  | ok a => exact wo_pre (fun P q => ws_seq (ws_asg h q)) (h2 a)
  | ex z => exact .inr (ws_seq (ws_asgZ h ⟨rfl, rfl⟩))
  | no => exact .inl rfl
theorem wx_asgO_ [Enc α] {r : Res (List α)} {f : List α → S} (h : EoR K W te ρ r) (hi : i < ρ.length) (h2 : ∀ a : List α, Wo K W k u (ρ.set i (.ow (a.map en))) e eL (.nx (f a))) : Wx K W k (tSeq (tAsg te (gName i)) u) ρ e eL (r.to fun a => .nx (f a)) := by
  cases r with
  | ok a => exact wo_pre (fun P q => ws_seq (ws_asgO h hi q)) (h2 a)
  | ex z => exact .inr (ws_seq (ws_asgZ h ⟨rfl, rfl⟩))
  | no => exact .inl rfl
theorem wx_asgC_ [Py α] {r : Res α} {f : α → S} (h : EcR K W te ρ r) (hi : i < ρ.length) (h2 : ∀ a : α, Wo K W k u (ρ.set i (.cl (eo a))) e eL (.nx (f a))) : Wx K W k (tSeq (tAsg te (gName i)) u) ρ e eL (r.to fun a => .nx (f a)) := by
  cases r with
  | ok a => exact wo_pre (fun P q => ws_seq (ws_asgC h hi q)) (h2 a)
  | ex z => exact .inr (ws_seq (ws_asgZ h ⟨rfl, rfl⟩))
  | no => exact .inl rfl
theorem wx_drop_ [Enc α] {r : Res α} {s : S} (h : EvR K W te ρ r) (h2 : Wo K W k u ρ e eL (.nx s)) : Wx K W k (tSeq (tDrop te) u) ρ e eL (r.to fun _ => .nx s) := by
  cases r with
  | ok a => exact wo_pre (fun P q => ws_seq (ws_drop h q)) h2
  | ex z => exact .inr (ws_seq (ws_dropZ h ⟨rfl, rfl⟩))
  | no => exact .inl rfl
theorem wx_pre {o : Out S L R} (hs : ∀ P : Pst, Ws K W u ρ P → Ws K W t ρ P) (h : Wx K W k u ρ e eL o) : Wx K W k t ρ e eL o := h.imp id fun h => hs _ h
theorem wx_if {rc : Res Bool} {oa ob : Out S L R} (hc : EtR K W tt ρ rc) (ha : Wx K W k t ρ e eL oa) (hb : Wx K W k u ρ e eL ob) : Wx K W k (tIfS tt t u) ρ e eL (ifO rc oa ob) := by
  cases rc with
  | ok c =>
    cases c with
    | true => exact wx_pre (fun P q => ws_if hc (fun _ => q) (fun h => nomatch h)) ha
    | false => exact wx_pre (fun P q => ws_if hc (fun h => nomatch h) (fun _ => q)) hb
  | ex z => exact .inr fun M T0 H T σ Dn en_ k_ => hc M T0 H T σ [] _ en_ fun od H' T' s' t' e' hx => k_.ex ρ σ _ _ _ od H' T' ⟨rfl, rfl⟩ s' e' (hx.dn en_.t0)
  | no => exact .inl rfl
theorem wx_up {o1 : Out Empty L R} (h : Wx K W k t ρ Empty.elim eL o1) : Wx K W k (tSeq t u) ρ e eL (o1.up : Out S L R) := by
  rcases h with rfl | h
  · exact .inl rfl
  cases o1 with
  | nx s => exact s.elim
  | rt r => exact .inr (ws_seq (ws_mono h (fun _ q => q.elim) (fun _ q => q) (fun _ q => q) (fun _ q => q) (fun _ _ q => q)))
  | bk r => exact .inr (ws_seq (ws_mono h (fun _ q => q.elim) (fun _ q => q) (fun _ q => q) (fun _ q => q) (fun _ _ q => q)))
  | ct r => exact .inr (ws_seq (ws_mono h (fun _ q => q.elim) (fun _ q => q) (fun _ q => q) (fun _ q => q) (fun _ _ q => q)))
  | ex r => exact .inr (ws_seq (ws_mono h (fun _ q => q.elim) (fun _ q => q) (fun _ q => q) (fun _ q => q) (fun _ _ q => q)))
  | no => exact .inl rfl
theorem wx_ifx {rc : Res Bool} {oa : Out Empty L R} {ob : Out S L R} (hc : EtR K W tt ρ rc) (ha : Wx K W k t ρ Empty.elim eL oa) (hb : Wx K W k u ρ e eL ob) : Wx K W k (tSeq (tIfS tt t tNext) u) ρ e eL (ifO rc oa.up ob) := by
  cases rc with
  | ok c =>
    cases c with
    | true => exact wx_pre (fun P q M T0 H T σ Dn en_ k_ => hc M T0 H T σ [] _ en_ fun H' T' s t e => q M T0 H' T' σ Dn e (k_.up s)) (wx_up ha)
    | false => exact wx_pre (fun P q M T0 H T σ Dn en_ k_ => hc M T0 H T σ [] _ en_ fun H' T' s t e => (ws_seq (ws_next q) : Ws K W (tSeq tNext u) ρ P) M T0 H' T' σ Dn e (k_.up s)) hb
  | ex z => exact .inr fun M T0 H T σ Dn en_ k_ => hc M T0 H T σ [] _ en_ fun od H' T' s' t' e' hx => k_.ex ρ σ _ _ _ od H' T' ⟨rfl, rfl⟩ s' e' (hx.dn en_.t0)
  | no => exact .inl rfl
/-- try: body except Fault as n: suite -/
theorem wo_try {tb : WX → TS} {ts : Addr → Value → Option Addr → TS} {cf : Value} {Wout : WX} {o : Out S L R} {h : Xn → Out S L R} (hb : ∀ W', Wx K W' k (tb W') ρ e eL o) (hm : ∀ y ∈ errs, PySem.W.exmOne K (.ref (Cm.at_ y)) cf = some true)
    (hh : ∀ (a : Addr) (c : Value) (d : Option Addr) (x : Xe a c d), Wo K W k (ts a c d) (ρ.set i (.im (en x))) e eL (h x.z)) (he : ∀ s, (e s).set i .no = e s) (hL : ∀ l, (eL l).set i .no = eL l) : Wo K W k (tTry K cf i tb ts Wout) ρ e eL (tryO errs o h) := by
  cases ho : o with
  | no => exact .inl rfl
  | ex z =>
    show Wo K W k _ ρ e eL (if z.1 ∈ errs then (h z).calm else .no)
    by_cases hz : z.1 ∈ errs
    · rw [if_pos hz]
      rcases Classical.em ((h z).calm = .no) with hn | hn
      · exact .inl hn
      have ex0 : ∀ z', h z ≠ .ex z' := fun z' hz' => hn (by rw [hz']; rfl)
      have ec : (h z).calm = h z := by
        cases hh : h z with
        | ex z' => exact (ex0 z' hh).elim
        | _ => rfl
      rw [ec] at hn ⊢
      refine .inr (ws_tryN (Pc := fun ρ' z' => ρ' = ρ ∧ z' = enX z) (fun W' => ?_) ?_)
      · rcases hb W' with q | q
        · rw [ho] at q
          cases q
        · rw [ho] at q
          exact ws_mono q (fun _ q => q.elim) (fun _ q => q.elim) (fun _ q => q.elim) (fun _ q => q.elim) (fun _ _ q => q)
      · rintro ρ' z' ⟨rfl, rfl⟩
        refine ⟨hm _ hz, fun a od => ?_⟩
        have q := (hh a (.ref (Cm.at_ z.1)) od ⟨z, rfl⟩).resolve_left hn
        refine ws_mono q (fun ρ2 g => ?_) (fun _ g => ?_) (fun ρ2 g => ?_) (fun ρ2 g => ?_) (fun ρ2 z2 g => ?_)
        · show (post k e eL (h z)).nx (ρ2.set i .no)
          revert g
          show (post k e eL (h z)).nx ρ2 → _
          cases h z with
          | nx s => intro g; have g : ρ2 = e s := g; subst g; exact he s
          | _ => exact fun g => g.elim
        · exact g
        · show (post k e eL (h z)).bk (ρ2.set i .no)
          revert g
          show (post k e eL (h z)).bk ρ2 → _
          cases h z with
          | bk s => intro g; have g : ρ2 = eL s := g; subst g; exact hL s
          | _ => exact fun g => g.elim
        · show (post k e eL (h z)).ct (ρ2.set i .no)
          revert g
          show (post k e eL (h z)).ct ρ2 → _
          cases h z with
          | ct s => intro g; have g : ρ2 = eL s := g; subst g; exact hL s
          | _ => exact fun g => g.elim
        · revert g
          show (post k e eL (h z)).ex ρ2 z2 → _
          cases hq : h z with
          | ex z' => exact (ex0 z' hq).elim
          | _ => exact fun g => g.elim
    · rw [if_neg hz]
      exact .inl rfl
  | nx s =>
    refine .inr (ws_tryN (Pc := fun _ _ => False) (fun W' => ?_) fun _ _ q => q.elim)
    have q := (hb W').resolve_left (by rw [ho]; exact fun h => nomatch h)
    rw [ho] at q
    exact q
  | rt s =>
    refine .inr (ws_tryN (Pc := fun _ _ => False) (fun W' => ?_) fun _ _ q => q.elim)
    have q := (hb W').resolve_left (by rw [ho]; exact fun h => nomatch h)
    rw [ho] at q
    exact q
  | bk s =>
    refine .inr (ws_tryN (Pc := fun _ _ => False) (fun W' => ?_) fun _ _ q => q.elim)
    have q := (hb W').resolve_left (by rw [ho]; exact fun h => nomatch h)
    rw [ho] at q
    exact q
  | ct s =>
    refine .inr (ws_tryN (Pc := fun _ _ => False) (fun W' => ?_) fun _ _ q => q.elim)
    have q := (hb W').resolve_left (by rw [ho]; exact fun h => nomatch h)
    rw [ho] at q
    exact q
/-! more of lists -/
theorem wq_extO_ [Py α] {l : List α} {r : Res (List α)} {f : List α → Out S L R} (hi : ρ[i]? = some (.ow (l.map en))) (h : EvR K W te ρ r) (h2 : ∀ m : List α, Wo K W k u (ρ.set i (.ow (m.map en))) e eL (f m)) :
    Wo K W k (tSeq (tDrop (tBM K "list" rExtend (tVar i) (tCons te tNil))) u) ρ e eL (r.to fun x => (cat l x).to f) := by
  cases r with
  | ok x =>
    show Wo K W k _ ρ e eL ((cat l x).to f)
    cases e2 : cat l x with
    | ok m =>
      obtain ⟨h3, rfl⟩ := if_ok e2
      have h : EvD K te ρ (en x) := h
      rw [en_lst] at h
      refine wo_pre (fun P q => ws_seq (ws_ext hi h (by rw [List.length_map, List.length_map]; exact h3) ?_)) (h2 _)
      rw [List.map_append] at q
      exact q
    | ex z => exact (if_ex e2).elim
    | no => exact .inl rfl
  | ex z =>
    refine .inr (ws_seq ?_)
    intro M T0 H T σ Dn en_ k_
    obtain ⟨p, vs, h1, hT, h4, _⟩ := en_.own hi
    exact ⟨.ref p, h1, .inl ⟨rfl, vs, .inl (.inl hT)⟩, h M T0 H T σ [] _ en_ fun od H' T' s' t' e' hx => k_.ex ρ σ _ _ _ od H' T' rfl s' e' (hx.dn en_.t0)⟩
  | no => exact .inl rfl
theorem find_first [DecidableEq α] {l : List α} {x : α} {j : Nat} (h : l.findIdx? (fun y => decide (y = x)) = some j) : l[j]? = some x ∧ ∀ m, m < j → ∀ z, l[m]? = some z → z ≠ x := by
  rw [List.findIdx?_eq_some_iff_getElem] at h
  obtain ⟨h1, h2, h3⟩ := h
  refine ⟨by rw [List.getElem?_eq_getElem h1, of_decide_eq_true h2], fun m hm z hz => ?_⟩
  have := h3 m hm
  obtain ⟨h4, h5⟩ := List.getElem?_eq_some_iff.mp hz
  subst h5
  simpa using this
theorem er_index [PyEq α] {ra : Res (List α)} {rb : Res α} (ha : EvR K W ta ρ ra) (hb : EvR K W tb ρ rb) (hn : PyEq.n α < 60 := by decide) : EvR K W (tBM K "list" (rIndexD K) ta (tCons tb tNil)) ρ (ra.calm.bind fun a => rb.calm.bind fun b => indexL a b) := by
  cases ra with
  | ok l =>
    cases rb with
    | ok y =>
      show EvR K W _ ρ (indexL l y)
      unfold indexL
      cases ej : l.findIdx? (fun z => decide (z = y)) with
      | none => trivial
      | some j =>
        obtain ⟨h1, h2⟩ := find_first ej
        have ha : EvD K ta ρ (en l) := ha
        rw [en_lst] at ha
        have fl : ∀ z : α, (en z : D).flat (PyEq.n α) = true := fun z => flat_en _ _ (PyEq.flat z)
        refine ev_indexD (l := l.map en) (y := en y) (n := PyEq.n α) ha hb (flatL_iff.mpr fun d hd => ?_) (fl y) hn (by rw [List.getElem?_map, h1]; rfl) fun m z hm hz => ?_
        · obtain ⟨z, _, rfl⟩ := List.mem_map.mp hd
          exact fl z
        · rw [List.getElem?_map] at hz
          cases ez : l[m]? with
          | none => rw [ez] at hz; cases hz
          | some w =>
            rw [ez] at hz
            cases hz
            have := h2 m hm w ez
            show PyData.eqv (enD (dy w)).py (enD (dy y)).py = false
            rw [en_py _ _ _ (PyEq.flat w) (PyEq.flat y), PyEq.eqv]
            exact decide_eq_false this
    | _ => trivial
  | _ => trivial
theorem wq_clrC [Py α] {l : List α} {f : List α → Out S L R} (hi : ρ[i]? = some (.cl (eo l))) (h2 : ∀ m : List α, Wo K W k u (ρ.set i (.cl (eo m))) e eL (f m)) : Wo K W k (tSeq (tDrop (tBM0 K "list" rClear (tVar i))) u) ρ e eL ((Res.ok ([] : List α)).to f) := by
  rw [eo_lis] at hi
  refine wo_pre (fun P q => ws_seq (ws_clearP (π := []) hi (el_var hi) rfl ?_)) (h2 [])
  rw [eo_lis] at q
  exact q
theorem wq_clrC1 [Py α] {l : List (List α)} {rz : Res Int} {f : List (List α) → Out S L R} (hi : ρ[i]? = some (.cl (eo l))) (hz : EvR K W tb ρ rz) (h2 : ∀ m : List (List α), Wo K W k u (ρ.set i (.cl (eo m))) e eL (f m)) :
    Wo K W k (tSeq (tDrop (tBM0 K "list" rClear (tOp (rIx K) (tVar i) tb))) u) ρ e eL (rz.calm.to fun z => (modAt l z fun _ => .ok []).calm.to f) := by
  cases rz with
  | ok z =>
    show Wo K W k _ ρ e eL ((modAt l z fun _ => .ok []).calm.to f)
    cases e2 : modAt l z fun _ => .ok [] with
    | no => exact .inl rfl
    | ex z => exact .inl rfl
    | ok m =>
      obtain ⟨j, y, y', h3, h4, h5, rfl⟩ := modAt_ok e2
      cases h5
      refine wo_pre (fun P q => ws_seq (ws_clearP (π := [j]) (l := y.map eo) hi (el_1 hi hz h3) (by rw [at_1 h4, eo_lis]) ?_)) (h2 _)
      have e3 : (D.lst [] : D) = eo ([] : List α) := by rw [eo_lis]; rfl
      rw [e3, put_1 h4]
      exact q
  | _ => exact .inl rfl
/-- an open list of known things is taken off at its end, at a place; is emptied -/
theorem ws_setO {l l' : List D} {r : V → List V → Hp → VK → Prop} {P : Pst} (hi : ρ[i]? = some (.ow l)) (hr : ∀ (p : Addr) (vs : List V) (T : Hp) (Q : VK) (H : Hp), T p = some (.lst vs) → IsL K H l vs → (∀ v vs', IsL K H l' vs' → Q v (upd T p (.lst vs'))) → r (.ref p) [] T Q) (h : P.nx (ρ.set i (.ow l'))) : Ws K W (tDrop (tBM0 K "list" r (tVar i))) ρ P := fun M T0 H T σ Dn en_ k_ => by
  obtain ⟨p, vs, h1, h2, h4, h5, _⟩ := en_.own hi
  exact ⟨.ref p, h1, .inl ⟨rfl, vs, .inl (.inl h2)⟩, hr p vs T _ H h2 h4 fun v vs' hl => k_.nx _ _ _ _ h (Same.refl _) (h5 _ _ hl)⟩
theorem wq_clrO [Py α] {l : List α} {f : List α → Out S L R} (hi : ρ[i]? = some (.ow (l.map en))) (h2 : ∀ m : List α, Wo K W k u (ρ.set i (.ow (m.map en))) e eL (f m)) : Wo K W k (tSeq (tDrop (tBM0 K "list" rClear (tVar i))) u) ρ e eL ((Res.ok ([] : List α)).to f) :=
  wo_pre (fun P q => ws_seq (ws_setO (l' := []) hi (fun p vs T Q H hT hl g => ⟨p, vs, rfl, rfl, hT, g _ _ rfl⟩) q)) (h2 [])
theorem ws_popAtO {l : List D} {z : Int} {P : Pst} (hi : ρ[i]? = some (.ow l)) (hb : EvD K tb ρ (.int z)) (h0 : 0 ≤ z) (hz : z < l.length) (h6 : z < 2 ^ 62) (h : P.nx (ρ.set i (.ow (l.eraseIdx z.toNat)))) : Ws K W (tDrop (tBM K "list" rPopAt (tVar i) (tCons tb tNil))) ρ P := fun M T0 H T σ Dn en_ k_ => by
  obtain ⟨p, vs, h1, h2, h4, _⟩ := en_.own hi
  refine ⟨.ref p, h1, .inl ⟨rfl, vs, .inl (.inl h2)⟩, hb M T0 H T σ [] _ en_ fun v H' T' s t' e' iv => ?_⟩
  obtain ⟨p', vs', g1, g2, g4, g5, _⟩ := e'.own hi
  rw [h1] at g1
  cases g1
  have hv : v = .int z := iv
  subst hv
  have hl := g4.len
  have er : IsL K H' (l.eraseIdx z.toNat) (vs'.eraseIdx z.toNat) := by
    rw [List.eraseIdx_eq_take_drop_succ, List.eraseIdx_eq_take_drop_succ]
    exact (g4.take _).app (g4.drop _)
  obtain ⟨k, rfl⟩ : ∃ k : Nat, z = (k : Int) := ⟨z.toNat, by omega⟩
  rw [Int.toNat_natCast] at h er
  refine ⟨p, vs', (k : Int), k, vs'[k]'(by omega), rfl, rfl, g2, by omega, by omega, ?_, List.getElem?_eq_getElem _, k_.nx _ _ _ _ h s (g5 _ _ er)⟩
  rw [seqIndex_of (by omega) (by omega), Int.toNat_natCast]
theorem wq_popAtO [Py α] {l : List α} {rz : Res Int} {f : List α → Out S L R} (hi : ρ[i]? = some (.ow (l.map en))) (hz : EvR K W tb ρ rz) (h2 : ∀ m : List α, Wo K W k u (ρ.set i (.ow (m.map en))) e eL (f m)) : Wo K W k (tSeq (tDrop (tBM K "list" rPopAt (tVar i) (tCons tb tNil))) u) ρ e eL (rz.calm.to fun z => (popAt l z).to f) := by
  cases rz with
  | ok z =>
    show Wo K W k _ ρ e eL ((popAt l z).to f)
    unfold popAt
    split
    · rename_i hp
      refine wo_pre (fun P q => ws_seq (ws_popAtO hi hz hp.1 (by rw [List.length_map]; exact hp.2.1) hp.2.2 ?_)) (h2 _)
      rw [erase_map]
      exact q
    · exact .inl rfl
  | _ => exact .inl rfl
theorem wq_popO [Py α] {l : List α} {f : List α → Out S L R} (hi : ρ[i]? = some (.ow (l.map en))) (h2 : ∀ m : List α, Wo K W k u (ρ.set i (.ow (m.map en))) e eL (f m)) : Wo K W k (tSeq (tDrop (tBM0 K "list" rPop (tVar i))) u) ρ e eL ((popEnd l).to f) := by
  unfold popEnd
  split
  · exact .inl rfl
  · rename_i hl0
    refine wo_pre (fun P q => ws_seq (ws_setO (l' := (l.map en).dropLast) hi (fun p vs T Q H hT hl g => ?_) ?_)) (h2 _)
    · have := hl.len
      rw [List.length_map] at this
      exact ⟨p, vs, vs[vs.length - 1]'(by omega), rfl, rfl, hT, List.getElem?_eq_getElem _, g _ _ hl.dropLast⟩
    · rw [← List.map_dropLast]
      exact q
/-! star calls -/
theorem er_len2 [Py α] [Py β] {ra : Res (α × β)} (ha : EvR K W ta ρ ra) : EvR K W (tCB (rLenA K) (tCons ta tNil)) ρ (ra.bind fun p => .ok ((fun _ => (2 : Int)) p)) := er_cb1 (g := fun p : α × β => .ok ((fun _ => (2 : Int)) p)) (fun t c h => by
  cases h
  have q := rc_lent (K := K) (l := [en t.1, en t.2])
  exact q) (fun _ _ h => nomatch h) ha
theorem er_star [Py α] [Enc γ] {Ex : XK} {m : Tu α × Unit → Res γ} {ra : Res (List α)} (ha : EvR K W ta ρ ra) : EvR K W (tCallVS K (spV K (fnP kIm m)) Ex ta) ρ (ra.calm.bind fun l => if l.length ≤ 100000 then (m (⟨l⟩, ())).calm else .no) := by
  cases ra with
  | ok l =>
    show EvR K W _ ρ (if l.length ≤ 100000 then (m (⟨l⟩, ())).calm else .no)
    by_cases hl : l.length ≤ 100000
    · rw [if_pos hl]
      cases em : m (⟨l⟩, ()) with
      | ok c =>
        have ha : EvD K ta ρ (en l) := ha
        rw [en_lst] at ha
        refine ev_callVL ha (by rw [List.length_map]; exact hl) ⟨(⟨l⟩, ()), ?_, by rw [em]; exact rfl⟩
        show _ = [en (⟨l⟩ : Tu α)]
        rw [en_tu]
      | ex z => trivial
      | no => trivial
    · rw [if_neg hl]
      trivial
  | _ => trivial
theorem er_starN [Py α] [Enc γ] {n : Nat} {Ex : XK} {m : Tu α × Unit → Res γ} {rr : Res (List α)} (hr : ElR K W n tr ρ rr) (hn : n ≤ 1000 := by decide) : EvR K W (tCallV (spV K (fnP kIm m)) Ex tr) ρ (rr.calm.bind fun l => (m (⟨l⟩, ())).calm) := by
  obtain ⟨hr, hl⟩ := hr
  cases rr with
  | ok l =>
    show EvR K W _ ρ (m (⟨l⟩, ())).calm
    cases em : m (⟨l⟩, ()) with
    | ok c =>
      refine ev_callV hr (by rw [List.length_map, hl l rfl]; omega) ⟨(⟨l⟩, ()), ?_, by rw [em]; exact rfl⟩
      show _ = [en (⟨l⟩ : Tu α)]
      rw [en_tu]
    | ex z => trivial
    | no => trivial
  | _ => trivial
/-! labels by their first place -/
theorem firsts_take {row : List Int} {i : Nat} {x : Int} (h : row[i]? = some x) : firsts (row.take (i + 1)) = if x ∈ firsts (row.take i) then firsts (row.take i) else firsts (row.take i) ++ [x] := by
  unfold firsts
  rw [List.take_add_one, h, List.foldl_append]
  rfl
theorem read_numbered {R0 : Sl → Prop} {Z : Exn → Prop} {ds : List D} (p : fnP (τ := (List Int) × Unit) (kCl (γ := (List Int))) (fun t => m_numbered t.1) ds R0 Z) : ∃ row : List Int, ds = [intsD row] ∧ row.length ≤ 1000 ∧ R0 (.cl (natsD (row.map fun x => (firsts row).findIdx (· == x)))) := by
  obtain ⟨⟨row, _⟩, rfl, p⟩ := p
  have e1 : (en row : D) = intsD row := by rw [en_lst]; rfl
  refine ⟨row, by rw [← e1]; rfl, ?_⟩
  by_cases hl : row.length ≤ 1000
  · have e3 : m_numbered row = .ok (numbI row) := if_pos hl
    dsimp only at p
    rw [e3] at p
    have e2 : (eo (numbI row) : D) = natsD (row.map fun x => (firsts row).findIdx (· == x)) := by
      rw [eo_lis, numbI, List.map_map, natsD, List.map_map]
      rfl
    rw [← e2]
    exact ⟨hl, p⟩
  · have e3 : m_numbered row = .no := if_neg hl
    dsimp only at p
    rw [e3] at p
    exact p.elim
/-! a tree moved into another one, its name read once more -/
theorem wsA_seq {P : Pst} {xd : D} (h : WsA K W t ρ { P with nx := fun ρ' => Ws K W u ρ' P } j xd) : WsA K W (tSeq t u) ρ P j xd := fun M T0 H T σ Dn e a k =>
  h M T0 H T σ { Dn with nx := u Dn } e a ⟨fun ρ' σ' H' T' p s e' => p M T0 H' T' σ' Dn e' (k.up s), k.rt, k.bk, k.ct, k.ex⟩
theorem put_S {a : Addr} [Py α] {C : String} {ns : List Str} {l : List Dy} {m m' : List α} {jf : Nat} (hm : l[jf]? = some (dy m)) : D.put [jf] (.slf a (Cm.at_ C) ns (eoL l)) (.lst (m'.map eo)) = .slf a (Cm.at_ C) ns (eoL (l.set jf (dy m'))) := by
  show D.slf a (Cm.at_ C) ns ((eoL l).modify jf fun d => D.put [] d (.lst (m'.map eo))) = _
  rw [modify_set _ (eoL_get hm), eoL_set]
  congr 2
  show D.lst (m'.map eo) = eo m'
  rw [eo_lis]
theorem at_S {a : Addr} [Py α] {C : String} {ns : List Str} {l : List Dy} {m : List α} {jf : Nat} {f : Str} (hj : fldAt ns f = some jf) (hm : l[jf]? = some (dy m)) : D.at [jf] (.slf a (Cm.at_ C) ns (eoL l)) = some (.lst (m.map eo)) := by
  show (if jf < ns.length then ((eoL l)[jf]?).bind (D.at []) else none) = _
  rw [if_pos (fldAt_lt hj), eoL_get hm, ← eo_lis]
  rfl
theorem wq_moveApp2 {a : Addr} [Py α] [Py β] {C : String} {ns : List Str} {l : List Dy} {x : α} {m : List α} {m2 : List β} {ry : Res β} {f f2 : Str} {jf jg : Nat} {g : List α → List β → Out S L R} {ρ1 : Rho}
    (hij : i ≠ j) (hi : ρ[i]? = some (slS a C ns l)) (hx : ρ[j]? = some (.cl (eo x))) (c : Cls K (Cm.at_ C)) (n : NoAttr K (Cm.at_ C) f) (n2 : NoAttr K (Cm.at_ C) f2) (hjf : fldAt ns f = some jf) (hmf : l[jf]? = some (dy m)) (hjg : fldAt ns f2 = some jg) (hmg : l[jg]? = some (dy m2)) (hne : jf ≠ jg)
    (hF : Frz ((ρ.set j .no).set i (slS a C ns (l.set jf (dy (m ++ [x]))))) ρ1) (h : EcR K W te (ρ1.set j (.im (en x))) ry) (hil : i < ρ.length)
    (h2 : ∀ m' m2', Wo K W k u ((ρ.set j .no).set i (slS a C ns ((l.set jf (dy m')).set jg (dy m2')))) e eL (g m' m2')) :
    Wo K W k (tSeq (tDrop (tBM K "list" rAppend (tFld K (tVar i) f) (tCons (tVar j) tNil))) (tSeq (tDrop (tBM K "list" rAppend (tFld K (tVar i) f2) (tCons te tNil))) u)) ρ e eL ((app m x).to fun m' => ry.calm.to fun y => (app m2 y).to fun m2' => g m' m2') := by
  cases e1 : app m x with
  | no => exact .inl rfl
  | ex z => exact (app_ex e1).elim
  | ok m' =>
    obtain ⟨h3, rfl⟩ := app_ok e1
    cases ry with
    | ex z => exact .inl rfl
    | no => exact .inl rfl
    | ok y =>
      show Wo K W k _ ρ e eL ((app m2 y).to fun m2' => g (m ++ [x]) m2')
      cases e2 : app m2 y with
      | no => exact .inl rfl
      | ex z => exact (app_ex e2).elim
      | ok m2' =>
        obtain ⟨h4, rfl⟩ := app_ok e2
        have hlf := (List.getElem?_eq_some_iff.mp hmf).1
        have hlg := (List.getElem?_eq_some_iff.mp hmg).1
        refine wo_pre (fun P q => wq_moveApp (π := [jf]) (l := m.map eo) hij hi hx (el_self (K := K) hi hjf (by rw [eoL_len]; exact hlf) c n) (at_S hjf hmf) (by rw [List.length_map]; exact h3) ?_) (h2 (m ++ [x]) (m2 ++ [y]))
        have e3 : m.map eo ++ [eo x] = ((m ++ [x]).map eo : List D) := by rw [List.map_append]; rfl
        rw [e3, put_S hmf, er_o]
        have hi2 : ((ρ.set j .no).set i (slS a C ns (l.set jf (dy (m ++ [x])))))[i]? = some (slS a C ns (l.set jf (dy (m ++ [x])))) := by
          rw [List.getElem?_set_self (by rw [List.length_set]; exact hil)]
        have hmg2 : (l.set jf (dy (m ++ [x])))[jg]? = some (dy m2) := by rw [List.getElem?_set_ne hne]; exact hmg
        refine wsA_seq (wj_appP (π := [jg]) (l := m2.map eo) hi2 (el_self (K := K) hi2 hjg (by rw [eoL_len, List.length_set]; exact hlg) c n2) (at_S hjg hmg2) (ej_lentQ (congrArg (fun r : Rho => r.set j (.im (en x))) hF.eq) h kq_e) (by rw [List.length_map]; exact h4) ?_)
        have e4 : m2.map eo ++ [eo y] = ((m2 ++ [y]).map eo : List D) := by rw [List.map_append]; rfl
        show Ws K W u (List.set _ i _) P
        rw [e4, put_S hmg2, List.set_set]
        exact q
end
end FS
set_option Elab.async false
set_option linter.all false
set_option maxRecDepth 100000
set_option maxHeartbeats 4000000
set_option exponentiation.threshold 20000
/-! Defs that change the list they are handed; classmethods. -/
namespace FS
open PySem PySem.Spec PyProof.Rows L2
open Py (dy un)
open Enc (en)
open EncA (ea)

/-- a list lent by the caller, at its place -/
def slA [Cm] {α : Type} [Py α] (a : Addr) (l : List α) : Sl := .cl (.lsa a (l.map eo))
section
variable [Cm] {K : PySem.W.Frag} {W : L2.WX} {ρ ρ' : Rho} {te ta tb tc to_ : TE} {tt tu : TT} {t u : TS} {tr : TA} {wi : TI} {g : TG} {i j : Nat} {α β γ τ S S1 S' L L' R : Type} {k : R → Sl} {e : S → Rho} {e1 : S1 → Rho} {eL : L → Rho} {a : Addr}
theorem Frz.slA [Py α] {l : List α} {ρ ρ' : Rho} (h : Frz ρ ρ') : Frz (slA a l :: ρ) (.im (en l) :: ρ') := Frz.lsa h
theorem el_lsa [Py α] {l : List α} (hi : ρ[i]? = some (slA a l)) : EvL K (tVar i) ρ i [] := el_var hi
theorem ws_appAZ {l : List D} {z : Exn} {P : Pst} (hi : ρ[i]? = some (.cl (.lsa a l))) (hp : EvL K to_ ρ i []) (h : EvZ K W te ρ z) (hz : P.ex ρ z) : Ws K W (tDrop (tBM K "list" rAppend to_ (tCons te tNil))) ρ P := fun M T0 H T σ Dn en_ k_ =>
  hp M T0 H T σ [] _ en_ fun u H1 T1 s1 t1 e1 ⟨v, n1, n2⟩ => by
    obtain ⟨v', u', Ls, L0, h1, ⟨eu, vs, Lt, eL, hl⟩, h3, h4, _⟩ := e1.spot (π := []) hi rfl
    rw [n1] at h1
    cases h1
    have eu' := Nav.eq n2 h3
    subst eu'
    subst eu
    have hT : T1 a = some (.lst vs) := h4.here rfl (a, .lst vs) (by rw [eL]; exact List.mem_cons_self)
    exact ⟨.inl ⟨rfl, vs, .inl (.inl hT)⟩, h M T0 H1 T1 σ [] _ e1 fun od H' T' s' t' e' hx => k_.ex ρ σ _ _ _ od H' T' hz (s1.trans s') e' (hx.dn (en_.t0.trans t1))⟩
theorem wq_appA [Py α] {l : List α} {r : Res α} {f : List α → Out S L R} (hi : ρ[i]? = some (slA a l)) (h : EcR K W te ρ r) (h2 : ∀ m : List α, Wo K W k u (ρ.set i (slA a m)) e eL (f m)) :
    Wo K W k (tSeq (tDrop (tBM K "list" rAppend (tVar i) (tCons te tNil))) u) ρ e eL (r.to fun x => (app l x).to f) := by
  cases r with
  | ok x =>
    show Wo K W k _ ρ e eL ((app l x).to f)
    cases e2 : app l x with
    | ok m =>
      obtain ⟨h3, rfl⟩ := app_ok e2
      refine wo_pre (fun P q => ws_seq (ws_appA (π := []) hi (el_var hi) rfl h (by rw [List.length_map]; exact h3) ?_)) (h2 _)
      unfold slA at q
      rw [List.map_append] at q
      exact q
    | ex z => exact (app_ex e2).elim
    | no => exact .inl rfl
  | ex z => exact .inr (ws_seq (ws_appAZ hi (el_var hi) h rfl))
  | no => exact .inl rfl
theorem wq_setA_p [Py α] {l : List α} {r : Res α} {z : Int} {f : List α → Out S L R} (hi : ρ[i]? = some (slA a l)) (h : EcR K W te ρ r) (hz : EvR K W tb ρ (.ok z)) (h2 : ∀ m : List α, Wo K W k u (ρ.set i (slA a m)) e eL (f m)) :
    Wo K W k (tSeq (tAsg te (gSub (tVar i) tb rSetL)) u) ρ e eL (r.to fun x => (setAt l z x).to f) := by
  cases r with
  | ok x =>
    show Wo K W k _ ρ e eL ((setAt l z x).to f)
    cases e2 : setAt l z x with
    | ok m =>
      obtain ⟨j, h3, rfl⟩ := Option.map_eq_some_iff.mp (ofO_ok e2)
      have hj := (ixN_seq h3).2.1
      refine wo_pre (fun P q => ws_seq (ws_setA (π := []) (j := j) (y0 := (l.map eo)[j]'(by rw [List.length_map]; exact hj)) hi h (el_var hi) rfl hz (by rw [List.length_map]; exact h3) (List.getElem?_eq_getElem _) ?_)) (h2 _)
      unfold slA at q
      rw [List.map_set] at q
      exact q
    | ex z => exact (ofO_ex e2).elim
    | no => exact .inl rfl
  | ex z => exact .inr (ws_seq (ws_asgZ h rfl))
  | no => exact .inl rfl
theorem wq_setA_ [Py α] {l : List α} {r : Res α} {rz : Res Int} {f : List α → Out S L R} (hi : ρ[i]? = some (slA a l)) (h : EcR K W te ρ r) (hz : EvR K W tb ρ rz) (h2 : ∀ m : List α, Wo K W k u (ρ.set i (slA a m)) e eL (f m)) :
    Wo K W k (tSeq (tAsg te (gSub (tVar i) tb rSetL)) u) ρ e eL (r.to fun x => rz.calm.to fun z => (setAt l z x).to f) := by
  cases rz with
  | ok z => exact wq_setA_p hi h hz h2
  | ex z =>
    cases r with
    | ex z => exact .inr (ws_seq (ws_asgZ h rfl))
    | no => exact .inl rfl
    | ok x => exact .inl rfl
  | no =>
    cases r with
    | ex z => exact .inr (ws_seq (ws_asgZ h rfl))
    | no => exact .inl rfl
    | ok x => exact .inl rfl
theorem el_1A {l : List (List α)} [Py α] {z : Int} {j : Nat} (hi : ρ[i]? = some (slA a l)) (hz : EvR K W tb ρ (.ok z)) (hj : idx l.length z = some j) : EvL K (tOp (rIx K) (tVar i) tb) ρ i [j] :=
  el_ixA (π := []) hi (el_var hi) rfl hz (by rw [List.length_map]; exact hj)
theorem put_1A [Py α] {l : List (List α)} {j : Nat} {m m' : List α} (h : l[j]? = some m) : D.put [j] (.lsa a (l.map eo)) (eo m') = .lsa a ((l.set j m').map eo) := by
  rw [List.map_set]
  show D.lsa a ((l.map eo).modify j fun d => D.put [] d (eo m')) = _
  rw [modify_set (d := eo m) _ (by rw [List.getElem?_map, h]; rfl)]
  rfl
theorem at_1A [Py α] {l : List (List α)} {j : Nat} {m : List α} (h : l[j]? = some m) : D.at [j] (.lsa a (l.map eo)) = some (eo m) := by
  show ((l.map eo)[j]?).bind (D.at []) = _
  rw [List.getElem?_map, h]
  rfl
theorem wq_appA1_ [Py α] {l : List (List α)} {x : α} {z : Int} {f : List (List α) → Out S L R} (hi : ρ[i]? = some (slA a l)) (hz : EvR K W tb ρ (.ok z)) (h : EcR K W te ρ (.ok x)) (h2 : ∀ m : List (List α), Wo K W k u (ρ.set i (slA a m)) e eL (f m)) :
    Wo K W k (tSeq (tDrop (tBM K "list" rAppend (tOp (rIx K) (tVar i) tb) (tCons te tNil))) u) ρ e eL ((modAt l z fun y => app y x).calm.to f) := by
  cases e2 : modAt l z fun y => app y x with
  | no => exact .inl rfl
  | ex z => exact .inl rfl
  | ok m =>
    obtain ⟨j, y, y', h3, h4, h5, rfl⟩ := modAt_ok e2
    obtain ⟨h6, rfl⟩ := app_ok h5
    refine wo_pre (fun P q => ws_seq (ws_appP (π := [j]) (l := y.map eo) hi (el_1A hi hz h3) (by rw [at_1A h4, eo_lis]) h (by rw [List.length_map]; exact h6) ?_)) (h2 _)
    have e3 : D.lst (y.map eo ++ [eo x]) = eo (y ++ [x]) := by rw [eo_lis, List.map_append]; rfl
    rw [e3, put_1A h4]
    exact q
theorem wq_setA1_ [Py α] {l : List (List α)} {x : α} {z w : Int} {f : List (List α) → Out S L R} (hi : ρ[i]? = some (slA a l)) (h : EcR K W te ρ (.ok x)) (hz : EvR K W tb ρ (.ok z)) (hw : EvR K W tc ρ (.ok w)) (h2 : ∀ m : List (List α), Wo K W k u (ρ.set i (slA a m)) e eL (f m)) :
    Wo K W k (tSeq (tAsg te (gSub (tOp (rIx K) (tVar i) tb) tc rSetL)) u) ρ e eL ((modAt l z fun y => setAt y w x).calm.to f) := by
  cases e2 : modAt l z fun y => setAt y w x with
  | no => exact .inl rfl
  | ex z => exact .inl rfl
  | ok m =>
    obtain ⟨j, y, y', h3, h4, h5, rfl⟩ := modAt_ok e2
    obtain ⟨j2, h6, rfl⟩ := Option.map_eq_some_iff.mp (ofO_ok h5)
    have hj := (ixN_seq h6).2.1
    refine wo_pre (fun P q => ws_seq (ws_setP (π := [j]) (l := y.map eo) (j := j2) (y0 := (y.map eo)[j2]'(by rw [List.length_map]; exact hj)) hi h (el_1A hi hz h3) (by rw [at_1A h4, eo_lis]) hw (by rw [List.length_map]; exact h6) (List.getElem?_eq_getElem _) ?_)) (h2 _)
    have e3 : D.lst ((y.map eo).set j2 (eo x)) = eo (y.set j2 x) := by rw [eo_lis, List.map_set]
    rw [e3, put_1A h4]
    exact q
theorem wq_appA1 [Py α] {l : List (List α)} {rx : Res α} {rz : Res Int} {f : List (List α) → Out S L R} (hi : ρ[i]? = some (slA a l)) (hz : EvR K W tb ρ rz) (h : EcR K W te ρ rx) (h2 : ∀ m : List (List α), Wo K W k u (ρ.set i (slA a m)) e eL (f m)) :
    Wo K W k (tSeq (tDrop (tBM K "list" rAppend (tOp (rIx K) (tVar i) tb) (tCons te tNil))) u) ρ e eL (rz.calm.to fun z => rx.calm.to fun x => (modAt l z fun y => app y x).calm.to f) := by
  cases rz with
  | ok z =>
    cases rx with
    | ok x => exact wq_appA1_ hi hz h h2
    | _ => exact .inl rfl
  | _ => exact .inl rfl
theorem wq_setA1 [Py α] {l : List (List α)} {rx : Res α} {rz rw : Res Int} {f : List (List α) → Out S L R} (hi : ρ[i]? = some (slA a l)) (h : EcR K W te ρ rx) (hz : EvR K W tb ρ rz) (hw : EvR K W tc ρ rw) (h2 : ∀ m : List (List α), Wo K W k u (ρ.set i (slA a m)) e eL (f m)) :
    Wo K W k (tSeq (tAsg te (gSub (tOp (rIx K) (tVar i) tb) tc rSetL)) u) ρ e eL (rx.calm.to fun x => rz.calm.to fun z => rw.calm.to fun w => (modAt l z fun y => setAt y w x).calm.to f) := by
  cases rx with
  | ok x =>
    cases rz with
    | ok z =>
      cases rw with
      | ok w => exact wq_setA1_ hi h hz hw h2
      | _ => exact .inl rfl
    | _ => exact .inl rfl
  | _ => exact .inl rfl
theorem wq_clrA [Py α] {l : List α} {f : List α → Out S L R} (hi : ρ[i]? = some (slA a l)) (h2 : ∀ m : List α, Wo K W k u (ρ.set i (slA a m)) e eL (f m)) : Wo K W k (tSeq (tDrop (tBM0 K "list" rClear (tVar i))) u) ρ e eL ((Res.ok ([] : List α)).to f) := by
  refine wo_pre (fun P q => ws_seq (ws_clrA (π := []) hi (el_var hi) rfl ?_)) (h2 [])
  exact q
theorem wq_popA [Py α] {l : List α} {f : List α → Out S L R} (hi : ρ[i]? = some (slA a l)) (h2 : ∀ m : List α, Wo K W k u (ρ.set i (slA a m)) e eL (f m)) : Wo K W k (tSeq (tDrop (tBM0 K "list" rPop (tVar i))) u) ρ e eL ((popEnd l).to f) := by
  unfold popEnd
  split
  · exact .inl rfl
  · rename_i hl
    refine wo_pre (fun P q => ws_seq (ws_popA (π := []) hi (el_var hi) rfl (by rw [List.length_map]; omega) ?_)) (h2 _)
    unfold slA at q
    rw [List.map_dropLast] at q
    exact q
theorem wq_popAtA_ [Py α] {l : List α} {z : Int} {f : List α → Out S L R} (hi : ρ[i]? = some (slA a l)) (hz : EvR K W tb ρ (.ok z)) (h2 : ∀ m : List α, Wo K W k u (ρ.set i (slA a m)) e eL (f m)) : Wo K W k (tSeq (tDrop (tBM K "list" rPopAt (tVar i) (tCons tb tNil))) u) ρ e eL ((popAt l z).to f) := by
  unfold popAt
  split
  · rename_i hl
    have hz : EvD K tb ρ (.int z) := hz
    rw [show z = ((z.toNat : Nat) : Int) by omega] at hz
    refine wo_pre (fun P q => ws_seq (ws_popAtA (π := []) (k := z.toNat) hi (el_var hi) rfl hz (by rw [List.length_map]; omega) (by omega) ?_)) (h2 _)
    unfold slA at q
    rw [← erase_map] at q
    exact q
  · exact .inl rfl
theorem wq_popAtA [Py α] {l : List α} {rz : Res Int} {f : List α → Out S L R} (hi : ρ[i]? = some (slA a l)) (hz : EvR K W tb ρ rz) (h2 : ∀ m : List α, Wo K W k u (ρ.set i (slA a m)) e eL (f m)) : Wo K W k (tSeq (tDrop (tBM K "list" rPopAt (tVar i) (tCons tb tNil))) u) ρ e eL (rz.calm.to fun z => (popAt l z).to f) := by
  cases rz with
  | ok z => exact wq_popAtA_ hi hz h2
  | _ => exact .inl rfl
/-- the promise of a def that changes its first argument: m tells what it is then -/
def fnM [Cm] {τ : Type} [EncA τ] {α : Type} [Py α] (m : List α × τ → Res (List α)) : PrM := fun l ds R => ∃ (x : List α) (t : τ), l = x.map eo ∧ ds = ea t ∧ match m (x, t) with
  | .ok y => R (y.map eo)
  | _ => False
/-- f(x, ..), x an open tree -/
theorem wq_callMR [EncA τ] [Py α] {l : List α} {m : List α × τ → Res (List α)} {rr : Res τ} {Ex : XK} {f : List α → Out S L R} (hi : ρ[i]? = some (.cl (eo l))) (hr : EaR K W tr ρ rr) (h2 : ∀ m : List α, Wo K W k u (ρ.set i (.cl (eo m))) e eL (f m)) :
    Wo K W k (tSeq (tDrop (tCall (spM K (fnM m)) [] Ex (tCons (tVar i) tr))) u) ρ e eL ((rr.bind fun t => m (l, t)).calm.to f) := by
  rw [eo_lis] at hi
  cases rr with
  | ok t =>
    show Wo K W k _ ρ e eL ((m (l, t)).calm.to f)
    cases em : m (l, t) with
    | ok y =>
      refine wo_pre (fun P q => wq_callM hi hr ⟨l, t, rfl, rfl, ?_⟩) (h2 y)
      rw [em]
      rw [eo_lis] at q
      exact q
    | _ => exact .inl rfl
  | _ => exact .inl rfl
theorem fn_wM {N : List Str} {t : TS} {E : XK} [EncA τ] [Py α] {m : List α × τ → Res (List α)} {k : R → Sl} {b : List α × τ → Out (List α) L R} {eS : Addr → List α × τ → List α → Rho} {eLL : Addr → List α × τ → L → Rho} (ρ0 : Addr → List α × τ → Rho)
    (he : ∀ a t, ρ0 a t = slA a t.1 :: ((ea t.2).map .im ++ List.replicate (N.length - ((ea t.2).length + 1)) .no)) (hs : ∀ a t s, (eS a t s)[0]? = some (slA a s))
    (h : ∀ a x, Wo K (upX E) k t (ρ0 a x) (eS a x) (eLL a x) (b x)) (hm : ∀ x, m x = (b x).made) :
    ∀ a l ds R', fnM m l ds R' → Ws K (upX E) t (.cl (.lsa a l) :: (ds.map .im ++ List.replicate (N.length - (ds.length + 1)) .no)) { nx := fun ρ' => ∃ l', ρ'[0]? = some (.cl (.lsa a l')) ∧ R' l', ex := fun _ _ => False } := by
  rintro a l ds R' ⟨x, y, rfl, rfl, q⟩
  have e1 := he a (x, y)
  have hb := h a (x, y)
  rw [e1] at hb
  rw [hm] at q
  rcases hb with hb | hb
  · rw [hb] at q
    exact q.elim
  · cases ho : b (x, y) with
    | nx s =>
      rw [ho] at q hb
      refine ws_mono hb (fun ρ' hρ => ?_) (fun _ q => q.elim) (fun _ q => q.elim) (fun _ q => q.elim) (fun _ _ q => q.elim)
      have hρ : ρ' = eS a (x, y) s := hρ
      subst hρ
      exact ⟨_, hs a (x, y) s, q⟩
    | ex z => rw [ho] at q; exact q.elim
    | rt r => rw [ho] at q; exact q.elim
    | bk l => rw [ho] at q; exact q.elim
    | ct l => rw [ho] at q; exact q.elim
    | no => rw [ho] at q; exact q.elim
theorem fnM_len [EncA τ] [Py α] {m : List α × τ → Res (List α)} {n : Nat} (h : ∀ a : τ, (ea a).length + 1 = n) : ∀ l ds R', fnM m l ds R' → ds.length + 1 = n := by
  rintro l ds R' ⟨x, y, _, rfl, _⟩
  exact h y
/-! classmethods -/
theorem ea_recvC {C : String} [EncA τ] {rr : Res τ} (hr : EaR K W tr ρ rr) : EaR K W (tRecvC (Cm.at_ C) (tC (.ref (Cm.at_ C))) tr) ρ (rr.bind fun t => .ok ((⟨⟩ : Cl C), t)) := by
  cases rr with
  | ok t => exact eva_recvC ev_obj hr
  | ex z => exact fun M T0 H T σ X Q e q => ⟨rfl, hr M T0 H T σ X _ e q⟩
  | no => trivial
theorem ec_mkLR {C : String} {c : Cl C} [EncA τ] [Py γ] {m : τ → Res γ} {rr : Res τ} (hi : ρ[i]? = some (.im (en c))) (hr : EaR K W tr ρ rr) : EcR K W (tMakeL i (Cm.at_ C) (spMk K (Cm.at_ C) (fnMk m)) W tr) ρ (rr.bind m) := by
  have h0 : EcR K W (tMakeW (Cm.at_ C) (spMk K (Cm.at_ C) (fnMk m)) W tr) ρ (rr.bind m) := ec_mkR hr
  have hi : ρ[i]? = some (.im (.obj (Cm.at_ C))) := hi
  generalize rr.bind m = r at h0 ⊢
  have go : ∀ (M : Op) (T0 H T : Hp) (σ : L2.St) (X : Op), EnX K M T0 H T σ ρ X → σ[i]? = some (some (.ref (Cm.at_ C))) := fun M T0 H T σ X e => by
    obtain ⟨v, h1, h2⟩ := e.get hi
    obtain rfl : v = .ref _ := h2
    exact h1
  cases r with
  | ok a => exact fun M T0 H T σ X Q e q => ⟨go _ _ _ _ _ _ e, h0 M T0 H T σ X Q e q⟩
  | ex z => exact fun M T0 H T σ X Q e q => ⟨go _ _ _ _ _ _ e, h0 M T0 H T σ X Q e q⟩
  | no => trivial
/-! for x in y: x.clear() -/
def clrTo (L : List D) (k : Nat) : List D := (L.take k).map (fun _ => .lst []) ++ L.drop k
theorem clrTo_len (L : List D) (k : Nat) : (clrTo L k).length = L.length := by
  rw [clrTo, List.length_append, List.length_map, List.length_take, List.length_drop]
  omega
theorem clrTo_get {L : List D} {k : Nat} (h : k < L.length) : (clrTo L k)[k]? = some (L[k]) := by
  rw [clrTo, List.getElem?_append_right (by rw [List.length_map, List.length_take]; omega), List.length_map, List.length_take, List.getElem?_drop]
  rw [show k + (k - min k L.length) = k by omega]
  exact List.getElem?_eq_getElem h
theorem clrTo_succ {L : List D} {k : Nat} (h : k < L.length) : (clrTo L k).set k (.lst []) = clrTo L (k + 1) := by
  have e : k - min k L.length = 0 := by omega
  rw [clrTo, List.set_append_right _ _ (by rw [List.length_map, List.length_take]; omega), List.length_map, List.length_take, e, List.drop_eq_getElem_cons h, List.set_cons_zero, clrTo, ← List.take_append_getElem h, List.map_append, List.append_assoc]
  rfl
theorem ws_forClr {L : List D} {P : Pst} (hi : ρ[i]? = some (.cl (.lst L))) (hl : ∀ x ∈ L, ∃ l, x = .lst l) (hj : ρ[j]? = some .no) (hij : i ≠ j) (h : P.nx (ρ.set i (.cl (.lst (L.map fun _ => .lst []))))) :
    Ws K W (tFor (iList K (tVar i)) (gName j) (tDrop (tBM0 K "list" rClear (tVar j)))) ρ P := fun M T0 H T σ Dn en k_ => by
  obtain ⟨v, u, Ls, L0, h1, ⟨a, vs, Lt, eu, eL, hv⟩, h3, h4, _⟩ := en.spot (π := []) hi rfl
  have h3 : v = u := h3
  subst h3
  subst eu
  have hT : T a = some (.lst vs) := h4.here rfl (a, .lst vs) (by rw [eL]; exact List.mem_cons_self)
  have hil : i < ρ.length := (List.getElem?_eq_some_iff.mp hi).1
  refine ⟨.ref a, h1, a, rfl, ⟨vs, .inl (.inl hT)⟩, fun n m σ' T' => m + n = L.length ∧ ∃ H', Same H H' ∧ En K M T0 H' T' σ' (ρ.set i (.cl (.lst (clrTo L n)))) ∧ σ'[i]? = some (some (.ref a)), ⟨L.length, by omega, H, Same.refl _, ?_, h1⟩, ?_⟩
  · have e0 : clrTo L 0 = L := by simp [clrTo]
    rw [e0, set_self hi]
    exact en
  rintro n m σ' T' ⟨hm, H', s', e', g1⟩
  have hi' : (ρ.set i (.cl (.lst (clrTo L n))))[i]? = some (.cl (.lst (clrTo L n))) := by rw [List.getElem?_set_self hil]
  obtain ⟨v2, u2, Ls2, L2, q1, ⟨a2, vs2, Lt2, eu2, eL2, hv2⟩, q3, q4, _⟩ := e'.spot (π := []) hi' rfl
  rw [g1] at q1
  cases q1
  have q3 : V.ref a = u2 := q3
  subst q3
  cases eu2
  have hT2 : T' a = some (.lst vs2) := q4.here rfl (a, .lst vs2) (by rw [eL2]; exact List.mem_cons_self)
  have hlen : vs2.length = L.length := by rw [hv2.len, clrTo_len]
  by_cases hn : n < L.length
  · refine .inr ⟨⟨vs2, vs2[n]'(by omega), .inl (.inl hT2), List.getElem?_eq_getElem _⟩, fun σ2 T2 => (m - 1) + (n + 1) = L.length ∧ ∃ H', Same H H' ∧ En K M T0 H' T2 σ2 (ρ.set i (.cl (.lst (clrTo L (n + 1))))) ∧ σ2[i]? = some (some (.ref a)), fun σ2 T2 z => ⟨m - 1, by omega, z⟩, ?_⟩
    rintro x T2 ⟨eT, hx⟩
    subst eT
    have hx := hx vs2 (.inl (.inl hT2))
    have hd : D.at [n] (.lst (clrTo L n)) = some (L[n]) := by
      show ((clrTo L n)[n]?).bind (D.at []) = _
      rw [clrTo_get hn]
      rfl
    obtain ⟨l, el⟩ := hl _ (List.getElem_mem hn)
    rw [el] at hd
    obtain ⟨v3, u3, Ls3, L3, r1, ⟨b, ws, Lt3, eu3, eL3, hw⟩, r3, r4, r5⟩ := e'.spot (π := [n]) hi' hd
    rw [g1] at r1
    cases r1
    obtain ⟨a3, w3, ea3, hnav, hr⟩ := r3
    cases ea3
    have hr : w3 = u3 := hr
    subst hr
    have exw : x = w3 := by
      rcases hnav with ⟨vs3, hv3, hg⟩ | ⟨C, dx, fs, nm, hv3, _⟩ | ⟨kvs, kk, hv3, _⟩
      · rcases hv3 with hv3 | hv3
        · rw [hT2] at hv3
          cases hv3
          rw [hx] at hg
          cases hg
          rfl
        · rw [hT2] at hv3
          cases hv3
      · rw [hT2] at hv3
        cases hv3
      · rw [hT2] at hv3
        cases hv3
    subst exw
    subst eu3
    subst eL3
    have hTb : T2 b = some (.lst ws) := r4.here rfl (b, .lst ws) List.mem_cons_self
    have hjl : j < σ'.length := by
      rw [e'.len, List.length_set]
      exact (List.getElem?_eq_some_iff.mp hj).1
    refine ⟨.ref b, List.getElem?_set_self hjl, .inl ⟨rfl, ws, .inl (.inl hTb)⟩, b, ws, rfl, rfl, hTb, by omega, H', s', ?_, by rw [List.getElem?_set_ne (Ne.symm hij)]; exact g1⟩
    have g7 := r5 H' (upd T2 b (.lst [])) [] (.lst []) [(b, .lst [])] (Same.refl _) ((EnX.write (o' := .lst []) r4).sub (List.Sublist.cons_cons _ (List.sublist_append_right _ _))) ⟨b, [], [], rfl, rfl, rfl, rfl⟩
    have e4 : D.put [n] (.lst (clrTo L n)) (.lst []) = .lst (clrTo L (n + 1)) := by
      show D.lst ((clrTo L n).modify n fun d => D.put [] d (.lst [])) = _
      rw [modify_set (d := L[n]) _ (clrTo_get hn), ← clrTo_succ hn]
      rfl
    rw [e4, List.set_set] at g7
    have g8 := EnX.drop (i := j) (x := some (.ref b)) g7
    have e5 : (ρ.set i (.cl (.lst (clrTo L (n + 1))))).set j .no = ρ.set i (.cl (.lst (clrTo L (n + 1)))) := set_self (by rw [List.getElem?_set_ne hij]; exact hj)
    rw [e5] at g8
    exact g8
  · have en2 : n = L.length := by omega
    subst en2
    refine .inl ⟨⟨vs2, .inl (.inl hT2), by omega⟩, k_.nx _ _ _ _ ?_ s' e'⟩
    have e6 : clrTo L L.length = L.map fun _ => .lst [] := by simp [clrTo]
    rw [e6]
    exact h
theorem wo_forClr [Py α] {l : List (List α)} {f : List (List α) → S} (hi : ρ[i]? = some (.cl (eo l))) (hj : ρ[j]? = some .no) (hij : i ≠ j) (h : ∀ m : List (List α), ρ.set i (.cl (eo m)) = e (f m)) :
    Wo K W k (tFor (iList K (tVar i)) (gName j) (tDrop (tBM0 K "list" rClear (tVar j)))) ρ e eL (.nx (f (l.map fun _ => []))) := by
  rw [eo_lis] at hi
  refine .inr (ws_forClr hi (fun x hx => ?_) hj hij ?_)
  · obtain ⟨y, _, rfl⟩ := List.mem_map.mp hx
    exact ⟨_, eo_lis⟩
  · show ρ.set i _ = e (f _)
    rw [← h, eo_lis, List.map_map, List.map_map]
    congr 4
theorem wq_forClr [Py α] {l : List (List α)} {f : List (List α) → Out S L R} (hi : ρ[i]? = some (.cl (eo l))) (hj : ρ[j]? = some .no) (hij : i ≠ j) (h : ∀ m : List (List α), Wo K W k u (ρ.set i (.cl (eo m))) e eL (f m)) :
    Wo K W k (tSeq (tFor (iList K (tVar i)) (gName j) (tDrop (tBM0 K "list" rClear (tVar j)))) u) ρ e eL ((Res.ok (l.map fun _ => []) : Res (List (List α))).to f) :=
  wo_seq (o1 := .nx (l.map fun _ => [])) (e1 := fun m : List (List α) => ρ.set i (.cl (eo m))) (wo_forClr (f := fun m => m) hi hj hij fun _ => rfl) h
/-! isinstance(x, C), C an own class -/
structure IsiC (K : PySem.W.Frag) (C : Addr) : Prop where
  cl : Cls K C
  ha : PySem.W.findIn K (.ref C) "__class__" = some (some (.builtin "object.__class__"))
  hn : PySem.W.specialIn K (.builtin "object.__class__") "__get__" = some (some (.builtin "getset_descriptor.__get__"))
  ht : PySem.W.takesIn K (.builtin "object.__class__") = some true
  hm : PySem.W.mroIn K C (.type "object") = some true
  k1 : PySem.W.kitOne K (.ref C) (.ref C) = some true
  kt : ∀ n ∈ ["NoneType", "bool", "int", "str", "tuple", "list"], PySem.W.kitOne K (.type n) (.ref C) = some false
theorem rc_isiN {c : String} {d : D} {C : Addr} (g : IsiC K C) (e : d.cls = some c) (hc : c ∈ ["NoneType", "bool", "int", "str", "tuple", "list"]) : RcD K (rIsi K) [d, .obj C] (.bl false) := fun H T vs Q s h q => by
  obtain ⟨v, w, rfl, h1, h2⟩ := isL_two h
  exact ⟨v, .ref C, .type c, .ref C, false, by rw [show w = V.ref C from h2], .own C, tyx_of (h1.up s) e, g.kt c hc, q _ rfl⟩
theorem rc_isiY {ns : List Str} {l : List D} {C : Addr} (g : IsiC K C) : RcD K (rIsi K) [.ins C ns l, .obj C] (.bl true) := fun H T vs Q s h q => by
  obtain ⟨v, w, rfl, h1, h2⟩ := isL_two h
  obtain ⟨a, dx, us, rfl, hH, _⟩ := h1
  exact ⟨.ref a, .ref C, .ref C, .ref C, true, by rw [show w = V.ref C from h2], .own C, .base (.ins (s _ _ hH) g.cl g.ha g.hn g.ht g.hm), g.k1, q _ rfl⟩
theorem er_isC {C : String} {ra : Res Dy} (g : IsiC K (Cm.at_ C)) (ha : EvR K W ta ρ ra) : EvR K W (tCB (rIsi K) (tCons ta (tCons (tC (.ref (Cm.at_ C))) tNil))) ρ (ra.bind fun d => isC C d) := by
  cases ra with
  | ok d =>
    cases d with
    | ins D l =>
      show EvR K W _ ρ (isC C (.ins D l))
      unfold isC
      dsimp only
      split
      · rename_i h
        subst h
        exact ev_cb (ea_cons ha (ea_cons ev_obj ea_nil)) (rc_isiY g)
      · trivial
    | non => exact ev_cb (ea_cons ha (ea_cons ev_obj ea_nil)) (rc_isiN g rfl (by decide))
    | bl b => exact ev_cb (ea_cons ha (ea_cons ev_obj ea_nil)) (rc_isiN g rfl (by decide))
    | int b => exact ev_cb (ea_cons ha (ea_cons ev_obj ea_nil)) (rc_isiN g rfl (by decide))
    | str b => exact ev_cb (ea_cons ha (ea_cons ev_obj ea_nil)) (rc_isiN g rfl (by decide))
    | tup b => exact ev_cb (ea_cons ha (ea_cons ev_obj ea_nil)) (rc_isiN g rfl (by decide))
    | lst b => exact ev_cb (ea_cons ha (ea_cons ev_obj ea_nil)) (rc_isiN g rfl (by decide))
  | ex z => exact fun M T0 H T σ X Q e q => ha M T0 H T σ X _ e q
  | no => trivial
theorem roomS {j k : Nat} {A : Around} {a : Option Value} (r : L2.Room k A) (h : j ≤ k := by decide) : L2H.RoomH j (A.mark a) := ⟨by have := r.dp; show A.depth + 3 * j + 5 < recursionLimit; omega, by have := r.un; show A.units + 16 * j + 200 < cLine; omega⟩
theorem wq_callMQ [EncA τ] [Py α] {l : List α} {m : List α × τ → Res (List α)} {rr : Res τ} {r : Res (List α)} {Ex : XK} {f : List α → Out S L R} (hi : ρ[i]? = some (.cl (eo l))) (hr : EaR K W tr ρ rr) (hq : (rr.bind fun t => m (l, t)) = r) (h2 : ∀ m : List α, Wo K W k u (ρ.set i (.cl (eo m))) e eL (f m)) :
    Wo K W k (tSeq (tDrop (tCall (spM K (fnM m)) [] Ex (tCons (tVar i) tr))) u) ρ e eL (r.calm.to f) := hq ▸ wq_callMR hi hr h2
theorem law_im {m : Scr → Res Bool} (pl : ∀ ns, m ⟨ns⟩ = .ok true) {ds : List D} {R : Sl → Prop} {Z : Exn → Prop} (h : P_law ds R Z) : fnP (τ := Scr × Unit) (kIm (γ := Bool)) (fun t => m t.1) ds R Z := by
  obtain ⟨ns, rfl, h⟩ := h
  refine ⟨(⟨ns⟩, ()), rfl, ?_⟩
  dsimp only
  rw [pl]
  exact h
theorem kit_N {C : Addr} {n : String} (s : PySem.W.subIn K (.type n) (.ref C) = some false) (hd : PySem.W.hasDictIn K C = true) (ty : PySem.W.typeIn K (.ref C) = some (.type "type")) : PySem.W.kitOne K (.type n) (.ref C) = some false := by
  obtain ⟨cd, hc, _⟩ := PySem.W.any_some hd
  have e : PySem.W.kitCls K (.type n) (.ref C) = some false := by
    show (if ((PySem.W.clsIn K C).isSome && PySem.W.typeIn K (.ref C) == some (.type "type")) = true then PySem.W.subIn K (.type n) (.ref C) else none) = _
    rw [hc, ty, if_pos (by rfl)]
    exact s
  unfold PySem.W.kitOne
  rw [if_neg]
  · exact e
  · intro h
    cases h
theorem kit_S {C : Addr} : PySem.W.kitOne K (.ref C) (.ref C) = some true := by
  unfold PySem.W.kitOne
  rw [if_pos]
  exact beq_iff_eq.mpr rfl
end
end FS
set_option linter.all false
set_option maxRecDepth 100000
set_option maxHeartbeats 4000000
set_option exponentiation.threshold 20000
/-! What plain functions tell: conditions. -/
namespace FS
open PySem
open Py (dy un)
section
variable {α β γ S S' L R : Type}
/-- r tells something of A, or raises something of E -/
def Res.W (r : Res α) (A : α → Prop) (E : Xn → Prop) : Prop := match r with
  | .ok a => A a
  | .ex z => E z
  | .no => False
/-- how o ends: by N, a return of Q, an error of E, break or continue of B, C -/
def Out.W (o : Out S L R) (N : S → Prop) (Q : R → Prop) (E : Xn → Prop) (B C : L → Prop) : Prop := match o with
  | .nx s => N s
  | .rt r => Q r
  | .ex z => E z
  | .bk l => B l
  | .ct l => C l
  | .no => False
variable {A : α → Prop} {E E' : Xn → Prop} {N : S → Prop} {Q : R → Prop} {B C : L → Prop}
theorem Res.W.eq {a : α} {r : Res α} (h : r.W (fun x => x = a) fun _ => False) : r = .ok a := by
  cases r with
  | ok x => exact congrArg _ h
  | ex z => exact h.elim
  | no => exact h.elim
theorem Res.W.mono {A A' : α → Prop} {r : Res α} (h : r.W A E) (ha : ∀ a, A a → A' a) (he : ∀ z, E z → E' z) : r.W A' E' := by
  cases r with
  | ok x => exact ha _ h
  | ex z => exact he _ h
  | no => exact h
theorem Res.W.imp {A A' : α → Prop} {r : Res α} (h : r.W A fun _ => False) (ha : ∀ a, A a → A' a) : r.W A' E := h.mono ha fun _ h => h.elim
theorem Res.W.ex_ok {A : α → Prop} {r : Res α} (h : r.W A fun _ => False) : ∃ a, r = .ok a ∧ A a := by
  cases r with
  | ok x => exact ⟨x, rfl, h⟩
  | ex z => exact h.elim
  | no => exact h.elim
theorem Res.W.is {r r0 : Res α} (h : r.W (fun a => r0 = .ok a) fun z => r0 = .ex z) : r = r0 := by
  cases r with
  | ok x => exact (show r0 = .ok x from h).symm
  | ex x => exact (show r0 = .ex x from h).symm
  | no => exact h.elim
theorem Out.W.mono {N N' : S → Prop} {Q Q' : R → Prop} {B B' C C' : L → Prop} {o : Out S L R} (h : o.W N Q E B C) (hn : ∀ s, N s → N' s) (hq : ∀ r, Q r → Q' r) (he : ∀ z, E z → E' z) (hb : ∀ l, B l → B' l) (hc : ∀ l, C l → C' l) : o.W N' Q' E' B' C' := by
  cases o with
  | nx s => exact hn _ h
  | rt s => exact hq _ h
  | ex s => exact he _ h
  | bk s => exact hb _ h
  | ct s => exact hc _ h
  | no => exact h
@[simp] theorem w_ok {a : α} : (Res.ok a).W A E = A a := propext Iff.rfl
@[simp] theorem w_ex {z : Xn} : (Res.ex z : Res α).W A E = E z := propext Iff.rfl
@[simp] theorem w_no : (Res.no : Res α).W A E = False := propext Iff.rfl
@[simp] theorem w_bind {r : Res β} {f : β → Res α} : (r.bind f).W A E = r.W (fun b => (f b).W A E) E := by cases r <;> rfl
@[simp] theorem w_calm {r : Res α} : r.calm.W A E = r.W A fun _ => False := by cases r <;> rfl
@[simp] theorem w_exG {r : Res α} : (exG r).W A E = r.W A fun z => z.2.all Dy.sc = true ∧ E z := by
  cases r with
  | ok a => rfl
  | ex z =>
    show (if z.2.all Dy.sc then Res.ex z else Res.no : Res α).W A E = _
    by_cases h : z.2.all Dy.sc = true
    · rw [if_pos h]
      exact propext ⟨fun e => ⟨h, e⟩, fun e => e.2⟩
    · rw [if_neg h]
      exact propext ⟨fun e => e.elim, fun e => h e.1⟩
  | no => rfl
@[simp] theorem w_nx {s : S} : (Out.nx s : Out S L R).W N Q E B C = N s := propext Iff.rfl
@[simp] theorem w_rt {s : R} : (Out.rt s : Out S L R).W N Q E B C = Q s := propext Iff.rfl
@[simp] theorem w_exO {s : Xn} : (Out.ex s : Out S L R).W N Q E B C = E s := propext Iff.rfl
@[simp] theorem w_bk {s : L} : (Out.bk s : Out S L R).W N Q E B C = B s := propext Iff.rfl
@[simp] theorem w_ct {s : L} : (Out.ct s : Out S L R).W N Q E B C = C s := propext Iff.rfl
@[simp] theorem w_to {r : Res α} {f : α → Out S L R} : (r.to f).W N Q E B C = r.W (fun a => (f a).W N Q E B C) E := by cases r <;> rfl
@[simp] theorem w_seq {N' : S' → Prop} {o : Out S L R} {k : S → Out S' L R} : (o.seq k).W N' Q E B C = o.W (fun s => (k s).W N' Q E B C) Q E B C := by cases o <;> rfl
@[simp] theorem w_up {o : Out Empty L R} : (o.up : Out S L R).W N Q E B C = o.W (fun _ => False) Q E B C := by
  cases o with
  | nx s => exact s.elim
  | _ => rfl
@[simp] theorem w_ifO {c : Res Bool} {a b : Out S L R} : (ifO c a b).W N Q E B C = c.W (fun c => if c = true then a.W N Q E B C else b.W N Q E B C) E := by
  cases c with
  | ok c => cases c <;> rfl
  | _ => rfl
@[simp] theorem w_fin {S : Type} {N : R → Prop} {o : Out S L R} {r0 : Res R} : (o.fin r0).W N E = o.W (fun _ => r0.W N E) N E (fun _ => False) (fun _ => False) := by cases o <;> rfl
@[simp] theorem w_made {o : Out S L R} : o.made.W N E = o.W N (fun _ => False) E (fun _ => False) (fun _ => False) := by cases o <;> rfl
@[simp] theorem w_calmO {o : Out S L R} : o.calm.W N Q E B C = o.W N Q (fun _ => False) B C := by cases o <;> rfl
@[simp] theorem w_try {errs : List String} {o : Out S L R} {h : Xn → Out S L R} : (tryO errs o h).W N Q E B C = o.W N Q (fun z => z.1 ∈ errs ∧ (h z).W N Q (fun _ => False) B C) B C := by
  cases o with
  | ex z =>
    show (if z.1 ∈ errs then (h z).calm else Out.no).W N Q E B C = _
    by_cases hz : z.1 ∈ errs
    · rw [if_pos hz, w_calmO]
      exact propext ⟨fun e => ⟨hz, e⟩, fun e => e.2⟩
    · rw [if_neg hz]
      exact propext ⟨fun e => e.elim, fun e => hz e.1⟩
  | _ => rfl
@[simp] theorem w_andR {a b : Res Bool} {A : Bool → Prop} : (andR a b).W A E = a.W (fun x => if x = true then b.W A E else A false) E := by
  unfold andR
  rw [w_bind]
  congr 1
  funext x
  cases x <;> rfl
@[simp] theorem w_orR {a b : Res Bool} {A : Bool → Prop} : (orR a b).W A E = a.W (fun x => if x = true then A true else b.W A E) E := by
  unfold orR
  rw [w_bind]
  congr 1
  funext x
  cases x <;> rfl
@[simp] theorem w_iteR {c : Res Bool} {a b : Res α} : (iteR c a b).W A E = c.W (fun x => if x = true then a.W A E else b.W A E) E := by
  unfold iteR
  rw [w_bind]
  congr 1
  funext x
  cases x <;> rfl
theorem w_mid {o : Out S L R} (I : S → Prop) (h : o.W I (fun _ => False) (fun _ => False) (fun _ => False) fun _ => False) (h2 : ∀ s, I s → N s) : o.W N Q E B C := h.mono h2 (fun _ q => q.elim) (fun _ q => q.elim) (fun _ q => q.elim) fun _ q => q.elim
/-! loops -/
theorem w_for {f : α → S → Out S S R} {l : List α} {s0 : S} (I : Nat → S → Prop) (h : ∀ k x s, l[k]? = some x → I k s → (f x s).W (I (k + 1)) Q E (fun s => N s) (I (k + 1))) (h0 : I 0 s0) (hn : ∀ s, I l.length s → N s) : (forO f l s0 : Out S L R).W N Q E B C := by
  induction l generalizing I s0 with
  | nil => exact hn _ h0
  | cons x l ih =>
    have h1 := h 0 x s0 rfl h0
    rw [forO]
    cases ef : f x s0 with
    | nx s =>
      rw [ef] at h1
      exact ih (fun k => I (k + 1)) (fun k y s hk hi => h (k + 1) y s hk hi) h1 hn
    | ct s =>
      rw [ef] at h1
      exact ih (fun k => I (k + 1)) (fun k y s hk hi => h (k + 1) y s hk hi) h1 hn
    | bk s => rw [ef] at h1; exact h1
    | rt s => rw [ef] at h1; exact h1
    | ex s => rw [ef] at h1; exact h1
    | no => rw [ef] at h1; exact h1
/-- .. every turn adds to a state that is a fold -/
theorem w_fold {f : α → S → Out S S R} {l : List α} {s0 : S} (g : S → α → S) (h : ∀ k x, l[k]? = some x → (f x ((l.take k).foldl g s0)) = .nx (g ((l.take k).foldl g s0) x)) (hn : N (l.foldl g s0)) : (forO f l s0 : Out S L R).W N Q E B C := by
  refine w_for (I := fun k s => s = (l.take k).foldl g s0) (fun k x s hk hs => ?_) rfl fun s hs => ?_
  · subst hs
    rw [h k x hk]
    show _ = (l.take (k + 1)).foldl g s0
    rw [List.take_add_one, hk, List.foldl_append]
    rfl
  · rw [List.take_length] at hs
    rw [hs]
    exact hn
theorem w_while {c : S → Res Bool} {f : S → Out S S R} {n : Nat} {s0 : S} (I : S → Prop) (m : S → Nat) (hc : ∀ s, I s → (c s).W (fun b => if b = true then (f s).W (fun s' => I s' ∧ m s' < m s) Q E N (fun s' => I s' ∧ m s' < m s) else N s) fun _ => False) (h0 : I s0) (hm : m s0 < n) : (whileO c f n s0 : Out S L R).W N Q E B C := by
  induction n generalizing s0 with
  | zero => exact absurd hm (Nat.not_lt_zero _)
  | succ n ih =>
    have h1 := hc s0 h0
    rw [whileO]
    cases ec : c s0 with
    | no => rw [ec] at h1; exact h1
    | ex z => rw [ec] at h1; exact h1.elim
    | ok b =>
      rw [ec] at h1
      cases b with
      | false => exact h1
      | true =>
        have h1 : (f s0).W (fun s' => I s' ∧ m s' < m s0) Q E N (fun s' => I s' ∧ m s' < m s0) := h1
        show Out.W (match f s0 with | .nx s => whileO c f n s | .ct s => whileO c f n s | .bk s => .nx s | .rt r => .rt r | .ex z => .ex z | .no => .no) N Q E B C
        cases ef : f s0 with
        | nx s => rw [ef] at h1; exact ih h1.1 (by have := h1.2; omega)
        | ct s => rw [ef] at h1; exact ih h1.1 (by have := h1.2; omega)
        | bk s => rw [ef] at h1; exact h1
        | rt s => rw [ef] at h1; exact h1
        | ex s => rw [ef] at h1; exact h1
        | no => rw [ef] at h1; exact h1
/-! operations -/
theorem at_k {l : List α} {k : Nat} {x : α} (h : l[k]? = some x) {i : Int} (e : i = (k : Int) := by rfl) : at_ l i = .ok x := by
  have hk := (List.getElem?_eq_some_iff.mp h).1
  subst e
  unfold at_ idx
  rw [if_pos (by omega), if_pos (by omega)]
  show ofO (l[((k : Int)).toNat]?) = _
  rw [Int.toNat_natCast, h]
  rfl
theorem set_k {l : List α} {k : Nat} {x : α} (h : k < l.length) {i : Int} (e : i = (k : Int) := by rfl) : setAt l i x = .ok (l.set k x) := by
  subst e
  unfold setAt idx
  rw [if_pos (by omega), if_pos (by omega)]
  rfl
theorem app_k {l : List α} {x : α} (h : l.length < 100000) : app l x = .ok (l ++ [x]) := if_pos h
theorem cat_k {l m : List α} (h : l.length + m.length ≤ 100000) : cat l m = .ok (l ++ m) := if_pos h
theorem range1_k {n : Nat} (h : n ≤ 1000000) {i : Int} (e : i = (n : Int) := by rfl) : range1 i = .ok ((List.range n).map fun k : Nat => (k : Int)) := by
  subst e
  unfold range1
  rw [if_pos (by omega), Int.toNat_natCast]
theorem mapP_k {l : List α} {f : α → β} (h : l.length ≤ 100000) : mapP l f = .ok (l.map f) := if_pos h
theorem mapR_k {f : α → Res β} {g : α → β} : ∀ {l : List α}, (∀ x ∈ l, f x = .ok (g x)) → mapR f l = .ok (l.map g)
  | [], _ => rfl
  | x :: l, h => by rw [mapR, h x List.mem_cons_self, Res.calm_ok, Res.bind_ok, mapR_k fun y hy => h y (List.mem_cons_of_mem _ hy)]; rfl
theorem mapL_k {f : α → Res β} {l : List α} (g : α → β) (h : ∀ x ∈ l, f x = .ok (g x)) (hl : l.length ≤ 100000) : mapL l f = .ok (l.map g) := by
  unfold mapL
  rw [if_pos hl, mapR_k h]
theorem mapIfR_k {c : α → Res Bool} {f : α → Res β} {p : α → Bool} {g : α → β} : ∀ {l : List α}, (∀ x ∈ l, c x = .ok (p x)) → (∀ x ∈ l, p x = true → f x = .ok (g x)) → mapIfR c f l = .ok ((l.filter p).map g)
  | [], _, _ => rfl
  | x :: l, h, h2 => by
    have ih := mapIfR_k (c := c) (f := f) (p := p) (g := g) (l := l) (fun y hy => h y (List.mem_cons_of_mem _ hy)) fun y hy => h2 y (List.mem_cons_of_mem _ hy)
    rw [mapIfR, h x List.mem_cons_self, Res.calm_ok, Res.bind_ok, List.filter_cons]
    cases hp : p x with
    | false => exact ih
    | true =>
      show ((f x).calm.bind fun y => (mapIfR c f l).bind fun m => .ok (y :: m)) = _
      rw [h2 x List.mem_cons_self hp, ih]
      rfl
theorem mapIf_k {c : α → Res Bool} {f : α → Res β} {l : List α} (p : α → Bool) (g : α → β) (h : ∀ x ∈ l, c x = .ok (p x)) (h2 : ∀ x ∈ l, p x = true → f x = .ok (g x)) (hl : l.length ≤ 100000) : mapIf l c f = .ok ((l.filter p).map g) := by
  unfold mapIf
  rw [if_pos hl, mapIfR_k h h2]
theorem log2_lt {n k : Nat} (h : n < 2 ^ k) (hk : 0 < k) : n.log2 < k := by
  by_cases h0 : n = 0
  · subst h0
    exact hk
  · exact (Nat.log2_lt h0).mpr h
theorem fdiv_k {a b : Int} (h : 0 < b) (h2 : b.natAbs < 2 ^ 9000) : fdiv a b = .ok (a / b) := if_pos ⟨h, log2_lt h2 (by decide)⟩
theorem fmod_k {a b : Int} (h : 0 < b) : fmod a b = .ok (a % b) := if_pos h
theorem mul_k {a b : Int} (m n : Nat) (ha : a.natAbs < 2 ^ m) (hb : b.natAbs < 2 ^ n) (h : m + n < 1000000 := by decide) (hm : 0 < m := by decide) (hn : 0 < n := by decide) : mul a b = .ok (a * b) := if_pos (.inr (by have := log2_lt ha hm; have := log2_lt hb hn; omega))
theorem min_foldl : ∀ (l : List Int) (a : Int), (l.foldl min a ≤ a ∧ ∀ y ∈ l, l.foldl min a ≤ y) ∧ (l.foldl min a = a ∨ l.foldl min a ∈ l)
  | [], a => ⟨⟨Int.le_refl _, fun y hy => nomatch hy⟩, .inl rfl⟩
  | x :: l, a => by
    rw [List.foldl_cons]
    obtain ⟨⟨h1, h2⟩, h3⟩ := min_foldl l (min a x)
    refine ⟨⟨by omega, fun y hy => ?_⟩, ?_⟩
    · rcases List.mem_cons.mp hy with rfl | hy
      · omega
      · exact h2 y hy
    · rcases h3 with h3 | h3
      · rw [h3]
        by_cases h : a ≤ x
        · exact .inl (by omega)
        · exact .inr (by rw [show min a x = x by omega]; exact List.mem_cons_self)
      · exact .inr (List.mem_cons_of_mem _ h3)
theorem max_foldl : ∀ (l : List Int) (a : Int), (a ≤ l.foldl max a ∧ ∀ y ∈ l, y ≤ l.foldl max a) ∧ (l.foldl max a = a ∨ l.foldl max a ∈ l)
  | [], a => ⟨⟨Int.le_refl _, fun y hy => nomatch hy⟩, .inl rfl⟩
  | x :: l, a => by
    rw [List.foldl_cons]
    obtain ⟨⟨h1, h2⟩, h3⟩ := max_foldl l (max a x)
    refine ⟨⟨by omega, fun y hy => ?_⟩, ?_⟩
    · rcases List.mem_cons.mp hy with rfl | hy
      · omega
      · exact h2 y hy
    · rcases h3 with h3 | h3
      · rw [h3]
        by_cases h : x ≤ a
        · exact .inl (by omega)
        · exact .inr (by rw [show max a x = x by omega]; exact List.mem_cons_self)
      · exact .inr (List.mem_cons_of_mem _ h3)
theorem minL_k {l : List Int} (h : l ≠ []) : ∃ m, minL l = .ok m ∧ m ∈ l ∧ ∀ y ∈ l, m ≤ y := by
  cases l with
  | nil => exact absurd rfl h
  | cons x l =>
    obtain ⟨⟨h1, h2⟩, h3⟩ := min_foldl l x
    refine ⟨_, rfl, ?_, fun y hy => ?_⟩
    · rcases h3 with h3 | h3
      · rw [h3]; exact List.mem_cons_self
      · exact List.mem_cons_of_mem _ h3
    · rcases List.mem_cons.mp hy with rfl | hy
      · exact h1
      · exact h2 y hy
theorem maxL_k {l : List Int} (h : l ≠ []) : ∃ m, maxL l = .ok m ∧ m ∈ l ∧ ∀ y ∈ l, y ≤ m := by
  cases l with
  | nil => exact absurd rfl h
  | cons x l =>
    obtain ⟨⟨h1, h2⟩, h3⟩ := max_foldl l x
    refine ⟨_, rfl, ?_, fun y hy => ?_⟩
    · rcases h3 with h3 | h3
      · rw [h3]; exact List.mem_cons_self
      · exact List.mem_cons_of_mem _ h3
    · rcases List.mem_cons.mp hy with rfl | hy
      · exact h1
      · exact h2 y hy
theorem range_get {n k : Nat} {x : Int} (h : ((List.range n).map fun k : Nat => (k : Int))[k]? = some x) : x = (k : Int) ∧ k < n := by
  rw [List.getElem?_map] at h
  obtain ⟨y, hy, rfl⟩ := Option.map_eq_some_iff.mp h
  obtain ⟨h1, h2⟩ := List.getElem?_eq_some_iff.mp hy
  rw [List.getElem_range] at h2
  rw [List.length_range] at h1
  exact ⟨by rw [h2], h1⟩
theorem range_len {n : Nat} : ((List.range n).map fun k : Nat => (k : Int)).length = n := by rw [List.length_map, List.length_range]
end
end FS
set_option linter.all false
set_option maxRecDepth 100000
set_option maxHeartbeats 4000000
set_option exponentiation.threshold 20000
/-! Books, plain. -/
namespace FB
open FS PySem
theorem filter_range_succ {p : Nat → Bool} {n : Nat} : (List.range (n + 1)).filter p = if p n then (List.range n).filter p ++ [n] else (List.range n).filter p := by
  rw [List.range_succ, List.filter_append]
  by_cases h : p n = true
  · rw [if_pos h]; simp [h]
  · rw [if_neg h]; simp [h]
def numbN (row : List Int) : List Nat := row.map fun x => (firsts row).findIdx (· == x)
/-! ### the cells of labels -/
def mxN (lab : List Nat) : Nat := lab.foldl max 0
def cellN (lab : List Nat) (i c : Nat) : List Nat := (List.range i).filter fun w => decide (lab.getD w 0 = c)
def gathN (lab : List Nat) : List (List Nat) := (List.range (mxN lab + 1)).map fun c => cellN lab lab.length c
theorem mx_fold : ∀ (l : List Nat) (a : Nat), a ≤ l.foldl max a ∧ (∀ x ∈ l, x ≤ l.foldl max a) ∧ (l.foldl max a = a ∨ l.foldl max a ∈ l)
  | [], a => ⟨Nat.le_refl _, fun x h => by simp at h, .inl rfl⟩
  | y :: l, a => by
    rw [List.foldl_cons]
    obtain ⟨h1, h2, h3⟩ := mx_fold l (max a y)
    refine ⟨by omega, fun x hx => ?_, ?_⟩
    · rcases List.mem_cons.mp hx with rfl | hx
      · omega
      · exact h2 x hx
    · rcases h3 with h3 | h3
      · rw [h3]
        by_cases h : a ≤ y
        · rw [Nat.max_eq_right h]
          exact .inr List.mem_cons_self
        · rw [Nat.max_eq_left (by omega)]
          exact .inl rfl
      · exact .inr (List.mem_cons_of_mem _ h3)
theorem mx_le {lab : List Nat} {x : Nat} (h : x ∈ lab) : x ≤ mxN lab := (mx_fold lab 0).2.1 x h
theorem mx_mem {lab : List Nat} (h : lab ≠ []) : mxN lab ∈ lab := by
  rcases (mx_fold lab 0).2.2 with e | e
  · cases lab with
    | nil => exact absurd rfl h
    | cons y l =>
      have h1 := mx_le (lab := y :: l) (x := y) List.mem_cons_self
      have e : mxN (y :: l) = 0 := e
      rw [e] at h1 ⊢
      have : y = 0 := by omega
      rw [← this]
      exact List.mem_cons_self
  · exact e
theorem cellN_succ {lab : List Nat} {i c x : Nat} (h : lab[i]? = some x) : cellN lab (i + 1) c = if x = c then cellN lab i c ++ [i] else cellN lab i c := by
  unfold cellN
  rw [filter_range_succ]
  have : lab.getD i 0 = x := by rw [List.getD_eq_getElem?_getD, h] <;> rfl
  rw [this]
  by_cases e : x = c
  · rw [if_pos e, decide_eq_true e] <;> rfl
  · rw [if_neg e, decide_eq_false e]
    simp
theorem cellN_len (lab : List Nat) (i c : Nat) : (cellN lab i c).length ≤ i := by
  have := List.length_filter_le (fun w => decide (lab.getD w 0 = c)) (List.range i)
  rw [List.length_range] at this
  exact this
/-- rows of labels and of weights that a book takes -/
structure GT (n : Nat) (sights odds : List (List Int)) : Prop where
  n1 : 1 ≤ n
  n2 : n ≤ 12
  p1 : 1 ≤ sights.length
  p2 : sights.length ≤ 6
  row : ∀ r ∈ sights, r.length = n
  lab : ∀ r ∈ sights, ∀ x ∈ r, 0 ≤ x ∧ x < 12
  len : odds.length = sights.length
  orow : ∀ r ∈ odds, r.length = n
  wt : ∀ r ∈ odds, ∀ x ∈ r, 0 ≤ x ∧ x ≤ 10 ^ 40
theorem p40 : (10 : Int) ^ 40 = 10000000000000000000000000000000000000000 := by decide
/-! ### weights in lowest form, cell by cell -/
def gcdC (ws : List Int) (cell : List Nat) : Nat := cell.foldl (fun g w => Nat.gcd g (ws.getD w 0).natAbs) 0
def lowC (ws : List Int) (cell : List Nat) (t : List Int) : List Int := cell.foldl (fun t w => t.set w (ws.getD w 0 / (gcdC ws cell : Int))) t
def lowN (cells : List (List Nat)) (ws : List Int) : List Int := cells.foldl (fun t cell => lowC ws cell t) ws
theorem foldl_take {α β : Type} {f : β → α → β} {l : List α} {i : Nat} {x : α} {b : β} (h : l[i]? = some x) : (l.take (i + 1)).foldl f b = f ((l.take i).foldl f b) x := by
  rw [List.take_add_one, h, List.foldl_append]
  rfl
theorem lowC_len (ws : List Int) (g : Int) : ∀ (cell : List Nat) (t : List Int), (cell.foldl (fun t w => t.set w (ws.getD w 0 / g)) t).length = t.length
  | [], t => rfl
  | w :: c, t => by rw [List.foldl_cons, lowC_len ws g c, List.length_set]
theorem lowN_len (ws : List Int) : ∀ (cells : List (List Nat)) (t : List Int), (cells.foldl (fun t cell => lowC ws cell t) t).length = t.length
  | [], t => rfl
  | c :: cs, t => by rw [List.foldl_cons, lowN_len ws cs, lowC, lowC_len]
theorem gcdC_le {ws : List Int} {c : List Nat} {w : Nat} (hp : 0 < gcdC ws c) (hw : w ∈ c) : gcdC ws c ∣ (ws.getD w 0).natAbs := by
  have : ∀ (c : List Nat) (a : Nat), (c.foldl (fun g w => Nat.gcd g (ws.getD w 0).natAbs) a ∣ a) ∧ ∀ w ∈ c, c.foldl (fun g w => Nat.gcd g (ws.getD w 0).natAbs) a ∣ (ws.getD w 0).natAbs := by
    intro c
    induction c with
    | nil => exact fun a => ⟨Nat.dvd_refl _, fun w h => by simp at h⟩
    | cons y c ih =>
      intro a
      rw [List.foldl_cons]
      obtain ⟨h1, h2⟩ := ih (Nat.gcd a (ws.getD y 0).natAbs)
      refine ⟨Nat.dvd_trans h1 (Nat.gcd_dvd_left _ _), fun w hw => ?_⟩
      rcases List.mem_cons.mp hw with rfl | hw
      · exact Nat.dvd_trans h1 (Nat.gcd_dvd_right _ _)
      · exact h2 w hw
  exact (this c 0).2 w hw
/-! ### making a book -/
def bkCells (row : List Int) : List (List Nat) := gathN (numbN row)
def bkWeights (row ws : List Int) : List Int := lowN (bkCells row) ws
def bkTotals (row ws : List Int) : List Int := (bkCells row).map fun c => (c.map fun w => (bkWeights row ws).getD w 0).sum
theorem numb_lt {row : List Int} {x : Nat} (h : x ∈ numbN row) : x < row.length := by
  obtain ⟨y, hy, rfl⟩ := List.mem_map.mp h
  have h1 : (firsts row).findIdx (· == y) < (firsts row).length := List.findIdx_lt_length_of_exists ⟨y, mem_firsts hy, by simp⟩
  have := firsts_len row
  omega
/-! ### the worlds that are one cell with v -/
def insideN (row : List Int) (n v : Nat) : List Nat := (List.range n).filter fun u => decide (row.getD u 0 = row.getD v 0)
theorem mem_inside {row : List Int} {n v : Nat} (h : v < n) : v ∈ insideN row n v := List.mem_filter.mpr ⟨List.mem_range.mpr h, by simp⟩
/-! ### a row's cells -/
theorem firsts_sub : ∀ (row s : List Int), s.Nodup → ((row.foldl (fun s x => if x ∈ s then s else s ++ [x]) s).Nodup ∧ ∀ x ∈ row.foldl (fun s x => if x ∈ s then s else s ++ [x]) s, x ∈ s ∨ x ∈ row)
  | [], s, h => ⟨h, fun x hx => .inl hx⟩
  | y :: row, s, h => by
    rw [List.foldl_cons]
    by_cases hy : y ∈ s
    · rw [if_pos hy]
      obtain ⟨a, b⟩ := firsts_sub row s h
      exact ⟨a, fun x hx => (b x hx).imp id (List.mem_cons_of_mem _)⟩
    · rw [if_neg hy]
      have hn : (s ++ [y]).Nodup := by
        rw [List.nodup_append]
        exact ⟨h, by simp, fun a ha b hb z => hy (by rw [List.mem_singleton.mp hb] at z; exact z ▸ ha)⟩
      obtain ⟨a, b⟩ := firsts_sub row (s ++ [y]) hn
      refine ⟨a, fun x hx => ?_⟩
      rcases b x hx with h | h
      · rcases List.mem_append.mp h with h | h
        · exact .inl h
        · exact .inr (by rw [List.mem_singleton.mp h]; exact List.mem_cons_self)
      · exact .inr (List.mem_cons_of_mem _ h)
theorem firsts_nodup (row : List Int) : (firsts row).Nodup := (firsts_sub row [] List.nodup_nil).1
theorem firsts_mem {row : List Int} {x : Int} (h : x ∈ firsts row) : x ∈ row := by
  rcases (firsts_sub row [] List.nodup_nil).2 x h with h | h
  · simp at h
  · exact h
theorem numb_get {row : List Int} {v : Nat} (h : v < row.length) : (numbN row).getD v 0 = (firsts row).findIdx (· == row.getD v 0) := by
  rw [numbN, List.getD_eq_getElem?_getD, List.getElem?_map, List.getD_eq_getElem?_getD, List.getElem?_eq_getElem h]
  rfl
theorem idx_at {row : List Int} {x : Int} (h : x ∈ row) : (firsts row).findIdx (· == x) < (firsts row).length ∧ (firsts row)[(firsts row).findIdx (· == x)]? = some x := by
  have hlt : (firsts row).findIdx (· == x) < (firsts row).length := List.findIdx_lt_length_of_exists ⟨x, mem_firsts h, by simp⟩
  refine ⟨hlt, ?_⟩
  rw [List.getElem?_eq_getElem hlt]
  have := List.findIdx_getElem (xs := firsts row) (p := (· == x)) (w := hlt)
  congr 1
  simpa using this
theorem getD_mem {row : List Int} {v : Nat} (h : v < row.length) : row.getD v 0 ∈ row := by
  rw [List.getD_eq_getElem?_getD, List.getElem?_eq_getElem h]
  exact List.getElem_mem _
theorem numb_eq {row : List Int} {u v : Nat} (hu : u < row.length) (hv : v < row.length) : (numbN row).getD u 0 = (numbN row).getD v 0 ↔ row.getD u 0 = row.getD v 0 := by
  rw [numb_get hu, numb_get hv]
  refine ⟨fun h => ?_, fun h => by rw [h]⟩
  have a := (idx_at (getD_mem hu)).2
  have b := (idx_at (getD_mem hv)).2
  rw [h, b] at a
  exact (Option.some.inj a).symm
theorem numb_len (row : List Int) : (numbN row).length = row.length := by rw [numbN, List.length_map]
theorem cell_inside {row : List Int} {v : Nat} (hv : v < row.length) : cellN (numbN row) (numbN row).length ((numbN row).getD v 0) = insideN row row.length v := by
  unfold cellN insideN
  rw [numb_len]
  refine List.filter_congr fun u hu => ?_
  exact decide_eq_decide.mpr (numb_eq (List.mem_range.mp hu) hv)
theorem idx_nodup : ∀ {l : List Int} {k : Nat} {x : Int}, l.Nodup → l[k]? = some x → l.findIdx (· == x) = k
  | [], _, _, _, h => by simp at h
  | y :: l, 0, x, _, h => by
    have : y = x := Option.some.inj h
    subst this
    simp [List.findIdx_cons]
  | y :: l, k + 1, x, hn, h => by
    have h' : l[k]? = some x := by simpa using h
    have hy : y ≠ x := fun e => (List.nodup_cons.mp hn).1 (e ▸ List.mem_of_getElem? h')
    have ih := idx_nodup (List.nodup_cons.mp hn).2 h'
    rw [List.findIdx_cons]
    have : (y == x) = false := by simpa using hy
    rw [this, ih]
    rfl
theorem cells_of_row {row : List Int} (hr : 1 ≤ row.length) {c : List Nat} (hc : c ∈ bkCells row) : ∃ v, v < row.length ∧ c = insideN row row.length v := by
  obtain ⟨k, hk, rfl⟩ := List.mem_map.mp hc
  have hk := List.mem_range.mp hk
  have hne : numbN row ≠ [] := fun e => by
    have := numb_len row
    rw [e] at this
    have : (0 : Nat) = row.length := this
    omega
  have hmm := mx_mem hne
  generalize mxN (numbN row) = M at hmm hk
  obtain ⟨y, hy, e⟩ := List.mem_map.mp hmm
  have h1 := (idx_at hy).1
  have hkf : k < (firsts row).length := by omega
  have hx : (firsts row)[k]? = some (firsts row)[k] := List.getElem?_eq_getElem hkf
  obtain ⟨v, hv, ev⟩ := List.getElem_of_mem (firsts_mem (List.mem_of_getElem? hx))
  refine ⟨v, hv, ?_⟩
  rw [← cell_inside hv]
  congr 1
  have e2 : row.getD v 0 = (firsts row)[k] := by rw [List.getD_eq_getElem?_getD, List.getElem?_eq_getElem hv, ← ev] <;> rfl
  rw [numb_get hv, e2, idx_nodup (firsts_nodup row) hx]
theorem inside_cell {row : List Int} {v : Nat} (hv : v < row.length) : insideN row row.length v ∈ bkCells row := by
  rw [← cell_inside hv]
  refine List.mem_map.mpr ⟨_, List.mem_range.mpr ?_, rfl⟩
  have hm : (numbN row).getD v 0 ∈ numbN row := by
    rw [List.getD_eq_getElem?_getD, List.getElem?_eq_getElem (by rw [numb_len]; exact hv)]
    exact List.getElem_mem _
  have := mx_le hm
  omega
/-! ### weights over their cell's divisor -/
theorem gcd_zero {ws : List Int} : ∀ {c : List Nat}, gcdC ws c = 0 → ∀ v ∈ c, (ws.getD v 0).natAbs = 0 := by
  intro c h v hv
  have hd : ∀ (c : List Nat) (a : Nat), (c.foldl (fun g w => Nat.gcd g (ws.getD w 0).natAbs) a ∣ a) ∧ ∀ w ∈ c, c.foldl (fun g w => Nat.gcd g (ws.getD w 0).natAbs) a ∣ (ws.getD w 0).natAbs := by
    intro c
    induction c with
    | nil => exact fun a => ⟨Nat.dvd_refl _, fun w h => by simp at h⟩
    | cons y c ih =>
      intro a
      rw [List.foldl_cons]
      obtain ⟨h1, h2⟩ := ih (Nat.gcd a (ws.getD y 0).natAbs)
      refine ⟨Nat.dvd_trans h1 (Nat.gcd_dvd_left _ _), fun w hw => ?_⟩
      rcases List.mem_cons.mp hw with rfl | hw
      · exact Nat.dvd_trans h1 (Nat.gcd_dvd_right _ _)
      · exact h2 w hw
  have := (hd c 0).2 v hv
  have e : c.foldl (fun g w => Nat.gcd g (ws.getD w 0).natAbs) 0 = 0 := h
  rw [e] at this
  exact Nat.eq_zero_of_zero_dvd this
theorem cells_ok {row : List Int} (hr : 1 ≤ row.length) {c : List Nat} (hc : c ∈ bkCells row) : c ≠ [] ∧ ∀ w ∈ c, w < row.length := by
  obtain ⟨v, hv, rfl⟩ := cells_of_row hr hc
  refine ⟨fun e => ?_, fun w hw => List.mem_range.mp (List.mem_filter.mp hw).1⟩
  have := mem_inside (row := row) hv
  rw [e] at this
  cases this
theorem wt_small {x : Int} (h0 : 0 ≤ x) (h : x ≤ 10 ^ 40) : x.natAbs < 2 ^ 140 := by
  have h40 : (10 : Int) ^ 40 = 10000000000000000000000000000000000000000 := by decide
  have h140 : (2 : Nat) ^ 140 = 1393796574908163946345982392040522594123776 := by decide
  rw [h40] at h
  rw [h140]
  omega
theorem getD_set {r : List Int} {k v : Nat} {x : Int} : (r.set k x).getD v 0 = if k = v ∧ k < r.length then x else r.getD v 0 := by
  rw [List.getD_eq_getElem?_getD, List.getD_eq_getElem?_getD, List.getElem?_set]
  by_cases h : k = v
  · subst h
    by_cases h2 : k < r.length
    · simp [h2]
    · simp [h2]
  · simp [h]
theorem lowC_get (ws : List Int) (g : Int) (v : Nat) : ∀ (c : List Nat) (t : List Int), v < t.length → (c.foldl (fun t w => t.set w (ws.getD w 0 / g)) t).getD v 0 = if v ∈ c then ws.getD v 0 / g else t.getD v 0
  | [], t, _ => by simp
  | w :: c, t, h => by
    rw [List.foldl_cons, lowC_get ws g v c _ (by rw [List.length_set]; exact h)]
    by_cases hc : v ∈ c
    · rw [if_pos hc, if_pos (List.mem_cons_of_mem _ hc)]
    · rw [if_neg hc, getD_set]
      by_cases e : w = v
      · subst e
        rw [if_pos ⟨rfl, h⟩, if_pos List.mem_cons_self]
      · rw [if_neg (fun z => e z.1), if_neg (fun z => (List.mem_cons.mp z).elim (fun q => e q.symm) hc)]
theorem lowN_get (ws : List Int) (g : Nat) (v : Nat) : ∀ (cells : List (List Nat)) (t : List Int), v < t.length → (∀ c ∈ cells, v ∈ c → gcdC ws c = g) → ((∃ c ∈ cells, v ∈ c) ∨ t.getD v 0 = ws.getD v 0 / (g : Int)) → (cells.foldl (fun t cell => lowC ws cell t) t).getD v 0 = ws.getD v 0 / (g : Int)
  | [], t, _, _, h => by
    rcases h with ⟨c, hc, _⟩ | h
    · simp at hc
    · exact h
  | c :: cells, t, hv, hg, h => by
    rw [List.foldl_cons]
    have hl : (lowC ws c t).length = t.length := lowC_len _ _ _ _
    refine lowN_get ws g v cells _ (by omega) (fun c' hc' => hg c' (List.mem_cons_of_mem _ hc')) ?_
    have e := lowC_get ws (gcdC ws c : Int) v c t hv
    by_cases hvc : v ∈ c
    · refine .inr ?_
      show (c.foldl (fun t w => t.set w (ws.getD w 0 / (gcdC ws c : Int))) t).getD v 0 = _
      rw [e, if_pos hvc, hg c List.mem_cons_self hvc]
    · rcases h with ⟨c', hc', hm⟩ | h
      · rcases List.mem_cons.mp hc' with rfl | hc'
        · exact absurd hm hvc
        · exact .inl ⟨c', hc', hm⟩
      · refine .inr ?_
        show (c.foldl (fun t w => t.set w (ws.getD w 0 / (gcdC ws c : Int))) t).getD v 0 = _
        rw [e, if_neg hvc, h]
theorem inside_same {row : List Int} {n u v : Nat} (h : u ∈ insideN row n v) : insideN row n u = insideN row n v := by
  have he : row.getD u 0 = row.getD v 0 := of_decide_eq_true (List.mem_filter.mp h).2
  unfold insideN
  rw [he]
theorem bkW_get {row ws : List Int} (hr : 1 ≤ row.length) (hl : row.length = ws.length) {v : Nat} (hv : v < row.length) : (bkWeights row ws).getD v 0 = ws.getD v 0 / ((gcdC ws (insideN row row.length v) : Nat) : Int) := by
  unfold bkWeights lowN
  refine lowN_get ws _ v (bkCells row) ws (by omega) (fun c hc hm => ?_) (.inl ⟨_, inside_cell hv, mem_inside hv⟩)
  obtain ⟨u, hu, rfl⟩ := cells_of_row hr hc
  rw [inside_same hm]
/-- a cell's weights are its reduced ones times the divisor -/
theorem gcd_dvd {ws : List Int} {c : List Nat} {v : Nat} (hp : 0 < gcdC ws c) (hv : v ∈ c) : ((gcdC ws c : Nat) : Int) ∣ ws.getD v 0 := by
  have := gcdC_le hp hv
  exact Int.ofNat_dvd_left.mpr this
/-- a lowered cell still weighs -/
theorem low_nz {row ws : List Int} (hr : 1 ≤ row.length) (hl : row.length = ws.length) {c : List Nat} (hc : c ∈ bkCells row) (h : gcdC ws c ≠ 0) : gcdC (bkWeights row ws) c ≠ 0 := fun h0 => by
  have hz := gcd_zero h0
  apply h
  have hv0 : ∀ v ∈ c, (ws.getD v 0).natAbs = 0 := fun v hv => by
    have hlt := (cells_ok hr hc).2 v hv
    obtain ⟨u, hu, rfl⟩ := cells_of_row hr hc
    have e := bkW_get hr hl hlt
    rw [inside_same hv] at e
    have z := hz v hv
    rw [e] at z
    obtain ⟨k, hk⟩ := gcd_dvd (Nat.pos_of_ne_zero h) hv
    rw [hk, Int.mul_ediv_cancel_left _ (by omega)] at z
    rw [hk, Int.natAbs_mul, z, Nat.mul_zero]
  have : ∀ l : List Nat, (∀ v ∈ l, (ws.getD v 0).natAbs = 0) → l.foldl (fun g w => Nat.gcd g (ws.getD w 0).natAbs) 0 = 0 := by
    intro l
    induction l with
    | nil => exact fun _ => rfl
    | cons y l ih =>
      intro h
      rw [List.foldl_cons, h y List.mem_cons_self, Nat.gcd_zero_right]
      exact ih fun v hv => h v (List.mem_cons_of_mem _ hv)
  exact this c hv0
theorem first_bad {α : Type} {p : α → Prop} : ∀ {l : List α}, (¬ ∀ c ∈ l, p c) → ∃ (k : Nat) (c : α), l[k]? = some c ∧ (∀ j : Nat, j < k → ∀ c', l[j]? = some c' → p c') ∧ ¬ p c
  | [], h => absurd (fun c hc => by cases hc) h
  | x :: l, h => by
    by_cases hx : p x
    · have : ¬ ∀ c ∈ l, p c := fun q => h fun c hc => by
        rcases List.mem_cons.mp hc with rfl | hc
        · exact hx
        · exact q c hc
      obtain ⟨k, c, h1, h2, h3⟩ := first_bad this
      refine ⟨k + 1, c, h1, fun j hj c' hc' => ?_, h3⟩
      cases j with
      | zero =>
        cases hc'
        exact hx
      | succ j => exact h2 j (by omega) c' hc'
    · exact ⟨0, x, rfl, fun j hj => absurd hj (Nat.not_lt_zero _), hx⟩
/-! ### Euclid's turns: x, y behind i turns -/
structure Eu (a b x y i : Nat) : Prop where
  g : Nat.gcd x y = Nat.gcd a b
  z : i = 0 → x = a ∧ y = b
  s : 1 ≤ i → y < x ∨ (x = 0 ∧ y = 0 ∧ b = 0) ∨ y = 0
  p : 1 ≤ i → x * y * 2 ^ (i - 1) ≤ b * b
theorem Eu.start (a b : Nat) : Eu a b a b 0 := ⟨rfl, fun _ => ⟨rfl, rfl⟩, fun h => by omega, fun h => by omega⟩
theorem Eu.turn {a b x y i : Nat} (h : Eu a b x y i) (hy : y ≠ 0) : Eu a b y (x % y) (i + 1) := by
  refine ⟨?_, fun h => by omega, fun _ => .inl (Nat.mod_lt _ (by omega)), fun _ => ?_⟩
  · rw [← h.g, Nat.gcd_comm x y, Nat.gcd_rec y x, Nat.gcd_comm]
  · by_cases hi : i = 0
    · obtain ⟨rfl, rfl⟩ := h.z hi
      subst hi
      have : x % y ≤ y := Nat.le_of_lt (Nat.mod_lt _ (by omega))
      show y * (x % y) * 2 ^ 0 ≤ y * y
      rw [Nat.pow_zero, Nat.mul_one]
      exact Nat.mul_le_mul_left _ this
    · have hp := h.p (by omega)
      have hs : y < x := by
        rcases h.s (by omega) with q | ⟨_, q, _⟩ | q
        · exact q
        · exact absurd q hy
        · exact absurd q hy
      have h2 : 2 * (x % y) ≤ x := by
        have e := Nat.div_add_mod x y
        have h1 : x % y < y := Nat.mod_lt _ (by omega)
        have h3 : 1 ≤ x / y := Nat.div_pos (by omega) (by omega)
        have h4 : y * 1 ≤ y * (x / y) := Nat.mul_le_mul_left y h3
        omega
      have e : i + 1 - 1 = (i - 1) + 1 := by omega
      rw [e, Nat.pow_succ]
      calc y * (x % y) * (2 ^ (i - 1) * 2) = y * (2 * (x % y)) * 2 ^ (i - 1) := by
            rw [Nat.mul_comm (2 ^ (i - 1)) 2, ← Nat.mul_assoc, Nat.mul_assoc y (x % y) 2, Nat.mul_comm (x % y) 2]
        _ ≤ y * x * 2 ^ (i - 1) := Nat.mul_le_mul_right _ (Nat.mul_le_mul_left _ h2)
        _ = x * y * 2 ^ (i - 1) := by rw [Nat.mul_comm y x]
        _ ≤ b * b := hp
theorem Eu.stop {a b x y i : Nat} (h : Eu a b x y i) (hy : y = 0) : x = Nat.gcd a b := by rw [← h.g, hy, Nat.gcd_zero_right]
/-- behind enough turns nothing is left -/
theorem Eu.done {a b x y n k : Nat} (h : Eu a b x y n) (hb : b < 2 ^ k) (hn : 2 * k + 1 ≤ n) : y = 0 := by
  rcases Nat.eq_zero_or_pos y with q | q
  · exact q
  · exfalso
    have hp := h.p (by omega)
    have hx : 1 ≤ x := by
      rcases h.s (by omega) with z | ⟨_, z, _⟩ | z <;> omega
    have h1 : 1 ≤ x * y := Nat.mul_pos hx q
    have h2 : 2 ^ (n - 1) ≤ x * y * 2 ^ (n - 1) := Nat.le_mul_of_pos_left _ h1
    have h3 : b * b < 2 ^ (2 * k) := by
      rw [Nat.two_mul, Nat.pow_add]
      exact Nat.mul_lt_mul'' hb hb
    have h4 : 2 ^ (2 * k) ≤ 2 ^ (n - 1) := Nat.pow_le_pow_right (by decide) (by omega)
    omega

end FB
set_option Elab.async false
set_option linter.all false
set_option maxRecDepth 100000
set_option maxHeartbeats 4000000
set_option exponentiation.threshold 20000
namespace FS
open PySem
open Py (dy un)
noncomputable section
structure Book where
  f_worlds : Int
  f_people : Int
  f__labels : List (List Int)
  f__cells : List (List (List Int))
  f__weights : List (List Int)
  f__totals : List (List Int)
def un_Book : Dy → Option Book
  | .ins C [d0, d1, d2, d3, d4, d5] => if C = "Book" then (un d0).bind fun x0 => (un d1).bind fun x1 => (un d2).bind fun x2 => (un d3).bind fun x3 => (un d4).bind fun x4 => (un d5).bind fun x5 => some ⟨x0, x1, x2, x3, x4, x5⟩ else none
  | _ => none
instance : Ins Book where
  nm := "Book"
  l b := [dy b.f_worlds, dy b.f_people, dy b.f__labels, dy b.f__cells, dy b.f__weights, dy b.f__totals]
  dy b := .ins "Book" [dy b.f_worlds, dy b.f_people, dy b.f__labels, dy b.f__cells, dy b.f__weights, dy b.f__totals]
  un := un_Book
  un_dy b := by simp [un_Book]
  ins _ := rfl
  dy_un d b h := by
    match d, h with
    | .ins C [d0, d1, d2, d3, d4, d5], h =>
      by_cases hC : C = "Book"
      · subst hC
        simp only [un_Book, if_true] at h
        obtain ⟨x0, h0, h⟩ := Option.bind_eq_some_iff.mp h
        obtain ⟨x1, h1, h⟩ := Option.bind_eq_some_iff.mp h
        obtain ⟨x2, h2, h⟩ := Option.bind_eq_some_iff.mp h
        obtain ⟨x3, h3, h⟩ := Option.bind_eq_some_iff.mp h
        obtain ⟨x4, h4, h⟩ := Option.bind_eq_some_iff.mp h
        obtain ⟨x5, h5, h⟩ := Option.bind_eq_some_iff.mp h
        cases h
        rw [Py.dy_un d0 x0 h0, Py.dy_un d1 x1 h1, Py.dy_un d2 x2 h2, Py.dy_un d3 x3 h3, Py.dy_un d4 x4 h4, Py.dy_un d5 x5 h5]
      · simp [un_Book, hC] at h
abbrev ERRS : List String := ["BadBook", "BadOdds", "BadNumber", "BadRow"]
abbrev XF_person : List (String × Nat × Nat) := [("BadOdds", 0, 2)]
abbrev XF_world : List (String × Nat × Nat) := [("BadOdds", 1, 2)]
/- _law_draws -/
def m_law_draws_l1  (size' : Int) (told' : List Int) (rest' : Int) : Out ((List Int) × Int) ((List Int) × Int) (List Int) :=
  (fmod rest' size' : Res Int).to fun v1 => (app told' v1).to fun told' =>
  (fdiv rest' size' : Res Int).to fun rest' =>
  .nx (told', rest')

def m_law_draws_l2 (sizes' : List Int) (k' : Int) (told' : List Int) (seed' : Int) : Out ((List Int) × Int) ((List Int) × Int) (List Int) :=
  (.ok ((((seed' * 48271) + (11 * k')) + 7) % 2147483647) : Res Int).to fun seed' =>
  (.ok ((((seed' * 69621) + (3 * k')) + 1) % 2147483629) : Res Int).to fun mixed' =>
  ((at_ sizes' k').bind fun v2 => fmod (mixed' / 7) v2 : Res Int).to fun v3 => (app told' v3).to fun told' =>
  .nx (told', seed')
def m_law_draws_b (cell' : Int) (sizes' : List Int) : Out Unit Unit (List Int) :=
  (.ok [] : Res (List Int)).to fun told' =>
  (.ok cell' : Res Int).to fun rest' =>
  ifO (.ok (decide (1000000000000000000 ≤ rest')))
  (Out.up ((.ok (rest' - 1000000000000000000) : Res Int).to fun rest' =>
  ((.ok sizes' : Res (List Int)).to fun l => forO (fun (size' : Int) => up2 (m_law_draws_l1 size')) l (told', rest') : Out ((List Int) × Int) _ _).seq (up2 (fun (told' : List Int) (rest' : Int) => .rt told'))))
  ((.ok (rest' % 2147483647) : Res Int).to fun seed' =>
  ((range1 (sizes'.length : Int) : Res (List Int)).to fun l => forO (fun (k' : Int) => up2 (m_law_draws_l2 sizes' k')) l (told', seed') : Out ((List Int) × Int) _ _).seq (up2 (fun (told' : List Int) (seed' : Int) => .rt told')))
@[irreducible] def m_law_draws (cell' : Int) (sizes' : List Int) : Res (List Int) := (m_law_draws_b cell' sizes').fin (.no)
theorem e_law_draws (cell' : Int) (sizes' : List Int) : m_law_draws cell' sizes' = (m_law_draws_b cell' sizes').fin (.no) := by unfold m_law_draws; rfl

/- _law_cell -/
def m_law_cell_b (script' : Scr) (k' : Int) : Out Unit Unit Int :=
  ifO (.ok (decide (k' < (script'.ns.length : Int))))
  (Out.up ((at_ script'.ns k' : Res Int).to .rt))
  (.rt ((31 * k') + 5))
@[irreducible] def m_law_cell (script' : Scr) (k' : Int) : Res Int := (m_law_cell_b script' k').fin (.no)
theorem e_law_cell (script' : Scr) (k' : Int) : m_law_cell script' k' = (m_law_cell_b script' k').fin (.no) := by unfold m_law_cell; rfl

/- _law_sights -/
def m_law_sights_l1 (script' : Scr) (worlds' : Int) (person' : Int) (sights' : List (List Int)) : Out (List (List Int)) (List (List Int)) (List (List Int)) :=
  (((((m_law_cell script' (1 + person')).calm).bind fun v12 => (((range1 (worlds' + 2)).bind fun v10 => mapP v10 (fun (k' : Int) => 12)).bind fun v11 => .ok (v11, ())).bind fun v13 => .ok (v12, v13)).bind fun t => m_law_draws t.1 t.2.1).calm : Res (List Int)).to fun drawn' =>
  (((at_ drawn' 0).bind fun v14 => fmod v14 worlds').bind fun v15 => .ok (1 + v15) : Res Int).to fun menu' =>
  ((range1 worlds').bind fun v20 => mapL v20 (fun (w' : Int) => (((at_ drawn' (2 + w')).bind fun v16 => fmod v16 menu').bind fun v17 => (at_ drawn' 1).bind fun v18 => .ok (v17 + v18)).bind fun v19 => .ok (v19 % 12)) : Res (List Int)).to fun v21 => (app sights' v21).to fun sights' =>
  .nx sights'
def m_law_sights_b (script' : Scr) : Out Unit Unit (List (List Int)) :=
  (((((m_law_cell script' 0).calm).bind fun v4 => .ok (v4, [5, 3, 8, 12, 6], ())).bind fun t => m_law_draws t.1 t.2.1).calm : Res (List Int)).to fun shape' =>
  ((at_ shape' 0).bind fun v5 => .ok (v5 + 1) : Res Int).to fun worlds' =>
  ((at_ shape' 1).bind fun v6 => .ok (v6 + 1) : Res Int).to fun people' =>
  (ifO ((at_ shape' 2).bind fun v7 => .ok (decide (v7 = 0)))
  (((at_ shape' 3).bind fun v8 => .ok (v8 + 1) : Res Int).to fun worlds' =>
  ((at_ shape' 4).bind fun v9 => .ok (v9 + 1) : Res Int).to fun people' =>
  .nx (worlds', people'))
  (.nx (worlds', people')) : Out (Int × Int) _ _).seq (up2 (fun (worlds' : Int) (people' : Int) => (.ok [] : Res (List (List Int))).to fun sights' =>
  ((range1 people' : Res (List Int)).to fun l => forO (fun (person' : Int) => up1 (m_law_sights_l1 script' worlds' person')) l sights' : Out (List (List Int)) _ _).seq (up1 (fun (sights' : List (List Int)) => .rt sights'))))
@[irreducible] def m_law_sights (script' : Scr) : Res (List (List Int)) := (m_law_sights_b script').fin (.no)
theorem e_law_sights (script' : Scr) : m_law_sights script' = (m_law_sights_b script').fin (.no) := by unfold m_law_sights; rfl

/- _law_counts -/
def m_law_counts_l1 (drawn' : List Int) (row' : List Int) (world' : Int) (w' : Int) (counts' : List Int) : Out (List Int) (List Int) (List Int) :=
  ifO ((at_ row' w').bind fun v35 => (at_ row' world').bind fun v36 => .ok (decide (v35 = v36)))
  ((at_ drawn' 1 : Res Int).to fun v37 => (setAt counts' w' v37).to fun counts' =>
  .nx counts')
  (.nx counts')
def m_law_counts_b (script' : Scr) (sights' : List (List Int)) : Out Unit Unit (List Int) :=
  ((at_ sights' 0).bind fun v22 => .ok (v22.length : Int) : Res Int).to fun worlds' =>
  (((((m_law_cell script' 7).calm).bind fun v23 => .ok (v23, [3, 6, 6, 12, 2, 9], ())).bind fun t => m_law_draws t.1 t.2.1).calm : Res (List Int)).to fun drawn' =>
  (((at_ drawn' 2).bind fun v24 => fmod v24 (sights'.length : Int)).bind fun v25 => at_ sights' v25 : Res (List Int)).to fun row' =>
  ((at_ drawn' 3).bind fun v26 => fmod v26 worlds' : Res Int).to fun world' =>
  ((((((m_law_cell script' 8).calm).bind fun v29 => (((range1 worlds').bind fun v27 => mapP v27 (fun (w' : Int) => 9)).bind fun v28 => .ok (v28, ())).bind fun v30 => .ok (v29, v30)).bind fun t => m_law_draws t.1 t.2.1).calm).bind fun v31 => mapP v31 (fun (n' : Int) => n' + 1) : Res (List Int)).to fun counts' =>
  (ifO ((at_ drawn' 0).bind fun v32 => .ok (decide (v32 = 0)))
  ((exG (mapP counts' (fun (n' : Int) => max 0 (n' - 5))) : Res (List Int)).to fun counts' =>
  .nx counts')
  (.nx counts') : Out (List Int) _ _).seq (up1 (fun (counts' : List Int) => (ifO ((at_ drawn' 1).bind fun v33 => .ok (decide (v33 = 2)))
  ((exG (mapL counts' (fun (n' : Int) => mul n' 1000000000000000000000000000000000000000)) : Res (List Int)).to fun counts' =>
  .nx counts')
  (ifO ((at_ drawn' 1).bind fun v34 => .ok (decide (v34 < 2)))
  (((range1 worlds' : Res (List Int)).to fun l => forO (fun (w' : Int) => up1 (m_law_counts_l1 drawn' row' world' w')) l counts' : Out (List Int) _ _).seq (up1 (fun (counts' : List Int) => .nx counts')))
  (.nx counts')) : Out (List Int) _ _).seq (up1 (fun (counts' : List Int) => (ifO ((at_ drawn' 1).bind fun v38 => .ok (decide (v38 = 1)))
  (((at_ drawn' 4).bind fun v39 => .ok (10000000000000000000000000000000000000000 + v39) : Res Int).to fun v40 => (setAt counts' world' v40).to fun counts' =>
  .nx counts')
  (.nx counts') : Out (List Int) _ _).seq (up1 (fun (counts' : List Int) => (ifO (.ok (decide (counts'.sum = 0)))
  (((at_ drawn' 5).bind fun v41 => .ok (v41 + 1) : Res Int).to fun v42 => (setAt counts' world' v42).to fun counts' =>
  .nx counts')
  (.nx counts') : Out (List Int) _ _).seq (up1 (fun (counts' : List Int) => .rt counts'))))))))
@[irreducible] def m_law_counts (script' : Scr) (sights' : List (List Int)) : Res (List Int) := (m_law_counts_b script' sights').fin (.no)
theorem e_law_counts (script' : Scr) (sights' : List (List Int)) : m_law_counts script' sights' = (m_law_counts_b script' sights').fin (.no) := by unfold m_law_counts; rfl

/- _law_gcd -/
def m_law_gcd_l1  (k' : Int) (first' : Int) (second' : Int) : Out (Int × Int) (Int × Int) Int :=
  ifO (.ok (decide (second' = 0)))
  (Out.up (.rt first'))
  ((fmod first' second' : Res Int).to fun rest' =>
  (.ok second' : Res Int).to fun first' =>
  (.ok rest' : Res Int).to fun second' =>
  .nx (first', second'))
def m_law_gcd_b (first' : Int) (second' : Int) : Out Unit Unit Int :=
  ((range1 4000 : Res (List Int)).to fun l => forO (fun (k' : Int) => up2 (m_law_gcd_l1 k')) l (first', second') : Out (Int × Int) _ _).seq (up2 (fun (first' : Int) (second' : Int) => .rt first'))
@[irreducible] def m_law_gcd (first' : Int) (second' : Int) : Res Int := (m_law_gcd_b first' second').fin (.no)
theorem e_law_gcd (first' : Int) (second' : Int) : m_law_gcd first' second' = (m_law_gcd_b first' second').fin (.no) := by unfold m_law_gcd; rfl

/- _law_ratio -/
def m_law_ratio_b (n' : Int) (d' : Int) : Out Unit Unit (Int × Int) :=
  ((m_law_gcd (iabs n') d').calm : Res Int).to fun common' =>
  (((fdiv n' common').bind fun v46 => ((fdiv d' common').bind fun v45 => .ok (v45, ())).bind fun v47 => .ok (v46, v47)).bind fun t => .ok (t.1, t.2.1) : Res (Int × Int)).to .rt
@[irreducible] def m_law_ratio (n' : Int) (d' : Int) : Res (Int × Int) := (m_law_ratio_b n' d').fin (.no)
theorem e_law_ratio (n' : Int) (d' : Int) : m_law_ratio n' d' = (m_law_ratio_b n' d').fin (.no) := by unfold m_law_ratio; rfl

/- _law_spoil_start -/
def m_law_spoil_start_l1 (drawn' : List Int) (w' : Int) (start' : List (Int × Int)) : Out (List (Int × Int)) (List (Int × Int)) Unit :=
  (exG (((((((at_ start' w').bind fun v93 => .ok v93.1).bind fun v94 => .ok (v94 * 2)).bind fun v95 => (at_ drawn' 3).bind fun v96 => mul v95 v96).bind fun v99 => (((at_ start' w').bind fun v97 => .ok v97.2).bind fun v98 => .ok (v98, ())).bind fun v100 => .ok (v99, v100)).bind fun t => m_law_ratio t.1 t.2.1).calm) : Res (Int × Int)).to fun v101 => (setAt start' w' v101).to fun start' =>
  .nx start'
def m_law_spoil_start_b (start' : List (Int × Int)) (drawn' : List Int) : Out (List (Int × Int)) Unit Unit :=
  (exG ((at_ drawn' 1).bind fun v48 => fmod v48 (start'.length : Int)) : Res Int).to fun at' =>
  (exG ((at_ drawn' 2).bind fun v49 => fmod v49 (start'.length : Int)) : Res Int).to fun other' =>
  ifO ((at_ drawn' 0).bind fun v50 => .ok (decide (v50 = 0)))
  ((app start' (0, 1)).to fun start' =>
  .nx start')
  (ifO ((at_ drawn' 0).bind fun v51 => .ok (decide (v51 = 1)))
  ((popAt start' at').to fun start' =>
  .nx start')
  (ifO ((at_ drawn' 0).bind fun v52 => .ok (decide (v52 = 2)))
  ((exG (((((((at_ start' at').bind fun v53 => .ok v53.1).bind fun v54 => mul v54 1000000000000000000000000000000).bind fun v60 => ((((at_ drawn' 3).bind fun v55 => .ok (2 * v55)).bind fun v56 => .ok (v56 - 1)).bind fun v58 => ((at_ start' at').bind fun v57 => .ok v57.2).bind fun v59 => mul v58 v59).bind fun v61 => .ok (v60 + v61)).bind fun v65 => ((((at_ start' at').bind fun v62 => .ok v62.2).bind fun v63 => mul v63 1000000000000000000000000000000).bind fun v64 => .ok (v64, ())).bind fun v66 => .ok (v65, v66)).bind fun t => m_law_ratio t.1 t.2.1).calm) : Res (Int × Int)).to fun v67 => (setAt start' at' v67).to fun start' =>
  .nx start')
  (ifO ((at_ drawn' 0).bind fun v68 => .ok (decide (v68 = 3)))
  ((exG (((((at_ start' at').bind fun v69 => .ok v69.1).bind fun v72 => (((at_ start' at').bind fun v70 => .ok v70.2).bind fun v71 => .ok (2 * v71)).bind fun v73 => .ok (v72 - v73)).bind fun v78 => (((at_ start' at').bind fun v74 => .ok v74.2).bind fun v77 => .ok (v77, ())).bind fun v79 => .ok (v78, v79)).bind fun t => .ok (t.1, t.2.1)) : Res (Int × Int)).to fun v92 => (setAt start' at' v92).to fun start' =>
  (exG (((((at_ start' other').bind fun v80 => .ok v80.1).bind fun v83 => (((at_ start' other').bind fun v81 => .ok v81.2).bind fun v82 => .ok (2 * v82)).bind fun v84 => .ok (v83 + v84)).bind fun v89 => (((at_ start' other').bind fun v85 => .ok v85.2).bind fun v88 => .ok (v88, ())).bind fun v90 => .ok (v89, v90)).bind fun t => .ok (t.1, t.2.1)) : Res (Int × Int)).to fun v91 => (setAt start' other' v91).to fun start' =>
  .nx start')
  (((range1 (start'.length : Int) : Res (List Int)).to fun l => forO (fun (w' : Int) => up1 (m_law_spoil_start_l1 drawn' w')) l start' : Out (List (Int × Int)) _ _).seq (up1 (fun (start' : List (Int × Int)) => .nx start'))))))
@[irreducible] def m_law_spoil_start (start' : List (Int × Int)) (drawn' : List Int) : Res (List (Int × Int)) := (m_law_spoil_start_b start' drawn').made
theorem e_law_spoil_start (start' : List (Int × Int)) (drawn' : List Int) : m_law_spoil_start start' drawn' = (m_law_spoil_start_b start' drawn').made := by unfold m_law_spoil_start; rfl

/- _law_spoil_sights -/
def m_law_spoil_sights_l1  (k' : Int) (sights' : List (List Int)) : Out (List (List Int)) (List (List Int)) Unit :=
  (setAt sights' k' []).to fun sights' =>
  .nx sights'

def m_law_spoil_sights_l2 (person' : Int) (k' : Int) (sights' : List (List Int)) : Out (List (List Int)) (List (List Int)) Unit :=
  (exG (at_ sights' person') : Res (List Int)).to fun v115 => (app sights' v115).to fun sights' =>
  .nx sights'

def m_law_spoil_sights_l3 (drawn' : List Int) (k' : Int) (sights' : List (List Int)) : Out (List (List Int)) (List (List Int)) Unit :=
  (exG ((at_ sights' k').bind fun v123 => (((((at_ drawn' 3).bind fun v117 => .ok (12 + v117)).bind fun v119 => ((at_ sights' k').bind fun v118 => .ok (v118.length : Int)).bind fun v120 => .ok (v119 - v120)).bind fun v121 => range1 v121).bind fun v122 => mapP v122 (fun (j' : Int) => 0)).bind fun v124 => cat v123 v124) : Res (List Int)).to fun v125 => (setAt sights' k' v125).to fun sights' =>
  .nx sights'
def m_law_spoil_sights_b (sights' : List (List Int)) (drawn' : List Int) : Out (List (List Int)) Unit Unit :=
  (exG ((at_ drawn' 1).bind fun v102 => fmod v102 (sights'.length : Int)) : Res Int).to fun person' =>
  (exG ((at_ drawn' 2).bind fun v104 => ((at_ sights' 0).bind fun v103 => .ok (v103.length : Int)).bind fun v105 => fmod v104 v105) : Res Int).to fun world' =>
  ifO ((at_ drawn' 0).bind fun v106 => .ok (decide (v106 = 0)))
  ((.ok [] : Res (List (List Int))).to fun sights' =>
  .nx sights')
  (ifO ((at_ drawn' 0).bind fun v107 => .ok (decide (v107 = 1)))
  (((range1 (sights'.length : Int) : Res (List Int)).to fun l => forO (fun (k' : Int) => up1 (m_law_spoil_sights_l1 k')) l sights' : Out (List (List Int)) _ _).seq (up1 (fun (sights' : List (List Int)) => .nx sights')))
  (ifO ((at_ drawn' 0).bind fun v108 => .ok (decide (v108 = 2)))
  ((((exG (((at_ drawn' 3).bind fun v112 => .ok (6 + v112)).bind fun v113 => .ok (v113 - (sights'.length : Int)))).bind fun v114 => range1 v114 : Res (List Int)).to fun l => forO (fun (k' : Int) => up1 (m_law_spoil_sights_l2 person' k')) l sights' : Out (List (List Int)) _ _).seq (up1 (fun (sights' : List (List Int)) => .nx sights')))
  (ifO ((at_ drawn' 0).bind fun v116 => .ok (decide (v116 = 3)))
  (((range1 (sights'.length : Int) : Res (List Int)).to fun l => forO (fun (k' : Int) => up1 (m_law_spoil_sights_l3 drawn' k')) l sights' : Out (List (List Int)) _ _).seq (up1 (fun (sights' : List (List Int)) => .nx sights')))
  (ifO ((at_ drawn' 0).bind fun v126 => .ok (decide (v126 = 4)))
  ((exG ((at_ sights' person').bind fun v127 => cat v127 [0]) : Res (List Int)).to fun v128 => (setAt sights' person' v128).to fun sights' =>
  .nx sights')
  (ifO ((at_ drawn' 0).bind fun v129 => .ok (decide (v129 = 5)))
  ((exG ((at_ sights' person').bind fun v130 => slFrom v130 1) : Res (List Int)).to fun v131 => (setAt sights' person' v131).to fun sights' =>
  .nx sights')
  (((at_ drawn' 3).bind fun v132 => at_ [12, -1] v132).calm.to fun v133 => (modAt sights' person' fun y => setAt y world' v133).calm.to fun sights' =>
  .nx sights'))))))
@[irreducible] def m_law_spoil_sights (sights' : List (List Int)) (drawn' : List Int) : Res (List (List Int)) := (m_law_spoil_sights_b sights' drawn').made
theorem e_law_spoil_sights (sights' : List (List Int)) (drawn' : List Int) : m_law_spoil_sights sights' drawn' = (m_law_spoil_sights_b sights' drawn').made := by unfold m_law_spoil_sights; rfl

/- _law_fits -/
def m_law_fits_l1 (sights' : List (List Int)) (row' : List Int)  : Out Unit Unit Bool :=
  ifO (orR (((at_ sights' 0).bind fun v138 => .ok (v138.length : Int)).bind fun v139 => .ok (!decide ((row'.length : Int) = v139))) (orR ((minL row').bind fun v140 => .ok (decide (v140 < 0))) ((maxL row').bind fun v141 => .ok (decide (11 < v141)))))
  (.rt false)
  (.nx ())
def m_law_fits_b (sights' : List (List Int)) : Out Unit Unit Bool :=
  ifO (orR (.ok (decide ((sights'.length : Int) < 1))) (orR (.ok (decide (6 < (sights'.length : Int)))) (orR (((at_ sights' 0).bind fun v134 => .ok (v134.length : Int)).bind fun v135 => .ok (decide (v135 < 1))) (((at_ sights' 0).bind fun v136 => .ok (v136.length : Int)).bind fun v137 => .ok (decide (12 < v137))))))
  (Out.up (.rt false))
  (((.ok sights' : Res (List (List Int))).to fun l => forO (fun (row' : List Int) => up0 (m_law_fits_l1 sights' row')) l () : Out Unit _ _).seq (up0 (.rt true)))
@[irreducible] def m_law_fits (sights' : List (List Int)) : Res Bool := (m_law_fits_b sights').fin (.no)
theorem e_law_fits (sights' : List (List Int)) : m_law_fits sights' = (m_law_fits_b sights').fin (.no) := by unfold m_law_fits; rfl

/- _law_numbered -/
def m_law_numbered_l1  (label' : Int) (seen' : List Int) : Out (List Int) (List Int) (List Int) :=
  ifO (.ok (!decide (label' ∈ seen')))
  ((app seen' label').to fun seen' =>
  .nx seen')
  (.nx seen')
def m_law_numbered_b (labels' : List Int) : Out Unit Unit (List Int) :=
  (.ok [] : Res (List Int)).to fun seen' =>
  ((.ok labels' : Res (List Int)).to fun l => forO (fun (label' : Int) => up1 (m_law_numbered_l1 label')) l seen' : Out (List Int) _ _).seq (up1 (fun (seen' : List Int) => (mapL labels' (fun (label' : Int) => indexL seen' label') : Res (List Int)).to .rt))
@[irreducible] def m_law_numbered (labels' : List Int) : Res (List Int) := (m_law_numbered_b labels').fin (.no)
theorem e_law_numbered (labels' : List Int) : m_law_numbered labels' = (m_law_numbered_b labels').fin (.no) := by unfold m_law_numbered; rfl

/- _law_lowest -/
def m_law_lowest_l2 (weights' : List Int) (world' : Int) (common' : Int) : Out Int Int Dy :=
  (((((at_ weights' world').bind fun v147 => .ok (v147, ())).bind fun v148 => .ok (common', v148)).bind fun t => m_law_gcd t.1 t.2.1).calm : Res Int).to fun common' =>
  .nx common'

def m_law_lowest_l3 (weights' : List Int) (common' : Int) (world' : Int) (told' : List Int) : Out (List Int) (List Int) Dy :=
  ((at_ weights' world').bind fun v150 => fdiv v150 common' : Res Int).to fun v151 => (setAt told' world' v151).to fun told' =>
  .nx told'

def m_law_lowest_l1 (weights' : List Int) (cell' : List Int) (told' : List Int) : Out (List Int) (List Int) Dy :=
  (.ok 0 : Res Int).to fun common' =>
  ((.ok cell' : Res (List Int)).to fun l => forO (fun (world' : Int) => up1 (m_law_lowest_l2 weights' world')) l common' : Out Int _ _).seq (up1 (fun (common' : Int) => ifO (.ok (decide (common' = 0)))
  (Out.up (((at_ cell' 0).bind fun v149 => .ok (dy (v149 : Int)) : Res Dy).to .rt))
  (((.ok cell' : Res (List Int)).to fun l => forO (fun (world' : Int) => up1 (m_law_lowest_l3 weights' common' world')) l told' : Out (List Int) _ _).seq (up1 (fun (told' : List Int) => .nx told')))))
def m_law_lowest_b (cells' : List (List Int)) (weights' : List Int) : Out Unit Unit Dy :=
  (.ok weights' : Res (List Int)).to fun told' =>
  ((.ok cells' : Res (List (List Int))).to fun l => forO (fun (cell' : List Int) => up1 (m_law_lowest_l1 weights' cell')) l told' : Out (List Int) _ _).seq (up1 (fun (told' : List Int) => .rt (dy (told' : List Int))))
@[irreducible] def m_law_lowest (cells' : List (List Int)) (weights' : List Int) : Res Dy := (m_law_lowest_b cells' weights').fin (.no)
theorem e_law_lowest (cells' : List (List Int)) (weights' : List Int) : m_law_lowest cells' weights' = (m_law_lowest_b cells' weights').fin (.no) := by unfold m_law_lowest; rfl

/- _law_cells -/
def m_law_cells_l1 (labels' : List Int) (label' : Int) (cells' : List (List Int)) : Out (List (List Int)) (List (List Int)) (List (List Int)) :=
  ((range1 (labels'.length : Int)).bind fun v155 => mapIf v155 (fun (w' : Int) => (at_ labels' w').bind fun v154 => .ok (decide (v154 = label'))) (fun (w' : Int) => .ok w') : Res (List Int)).to fun cell' =>
  ifO (.ok (decide (0 < (cell'.length : Int))))
  ((app cells' cell').to fun cells' =>
  .nx cells')
  (.nx cells')
def m_law_cells_b (labels' : List Int) : Out Unit Unit (List (List Int)) :=
  (.ok [] : Res (List (List Int))).to fun cells' =>
  ((range1 12 : Res (List Int)).to fun l => forO (fun (label' : Int) => up1 (m_law_cells_l1 labels' label')) l cells' : Out (List (List Int)) _ _).seq (up1 (fun (cells' : List (List Int)) => .rt cells'))
@[irreducible] def m_law_cells (labels' : List Int) : Res (List (List Int)) := (m_law_cells_b labels').fin (.no)
theorem e_law_cells (labels' : List Int) : m_law_cells labels' = (m_law_cells_b labels').fin (.no) := by unfold m_law_cells; rfl

/- _law_due -/
def m_law_due_l1  (number' : (Int × Int)) (common' : Int) : Out Int Int (List Dy) :=
  ((((m_law_gcd common' number'.2).calm).bind fun v168 => fdiv common' v168).bind fun v169 => mul v169 number'.2 : Res Int).to fun common' =>
  .nx common'

def m_law_due_l2 (counts' : List Int) (labels' : List (List Int)) (person' : Int) (odds' : List Dy) : Out (List Dy) (List Dy) (List Dy) :=
  (((((((at_ labels' person').bind fun v172 => .ok (v172, ())).bind fun t => m_law_cells t.1).calm).bind fun v173 => .ok (v173, counts', ())).bind fun t => m_law_lowest t.1 t.2.1).calm : Res Dy).to fun weights' =>
  ifO (isI isInt weights')
  (Out.up (.rt [dy (("BadOdds" : Str) : Str), dy (person' : Int), weights']))
  ((app odds' weights').to fun odds' =>
  .nx odds')

def m_law_due_l3  (weights' : Dy)  : Out Unit Unit (List Dy) :=
  ifO (((cast (List Int) weights').bind fun v174 => maxL v174).bind fun v175 => .ok (decide (10000000000000000000000000000000000000000 < v175)))
  (.rt [dy (("BadBook" : Str) : Str)])
  (.nx ())
def m_law_due_b (sights' : List (List Int)) (start' : List (Int × Int)) : Out Unit Unit (List Dy) :=
  ifO (((m_law_fits sights').calm).bind fun v165 => .ok (!v165))
  (Out.up (.rt [dy (("BadBook" : Str) : Str)]))
  (ifO (((at_ sights' 0).bind fun v166 => .ok (v166.length : Int)).bind fun v167 => .ok (!decide ((start'.length : Int) = v167)))
  (Out.up (.rt [dy (("BadRow" : Str) : Str)]))
  ((.ok 1 : Res Int).to fun common' =>
  ((.ok start' : Res (List (Int × Int))).to fun l => forO (fun (number' : (Int × Int)) => up1 (m_law_due_l1 number')) l common' : Out Int _ _).seq (up1 (fun (common' : Int) => (mapL start' (fun (number' : (Int × Int)) => (fdiv common' number'.2).bind fun v170 => mul number'.1 v170) : Res (List Int)).to fun counts' =>
  ifO (orR ((minL counts').bind fun v171 => .ok (decide (v171 < 0))) (.ok (!decide (counts'.sum = common'))))
  (Out.up (.rt [dy (("BadRow" : Str) : Str)]))
  ((mapL sights' (fun (row' : List Int) => (m_law_numbered row').calm) : Res (List (List Int))).to fun labels' =>
  (.ok [] : Res (List Dy)).to fun odds' =>
  ((range1 (labels'.length : Int) : Res (List Int)).to fun l => forO (fun (person' : Int) => up1 (m_law_due_l2 counts' labels' person')) l odds' : Out (List Dy) _ _).seq (up1 (fun (odds' : List Dy) => ((.ok odds' : Res (List Dy)).to fun l => forO (fun (weights' : Dy) => up0 (m_law_due_l3 weights')) l () : Out Unit _ _).seq (up0 (.rt [dy (("book" : Str) : Str), dy (labels' : List (List Int)), dy (odds' : List Dy)])))))))))
@[irreducible] def m_law_due (sights' : List (List Int)) (start' : List (Int × Int)) : Res (List Dy) := (m_law_due_b sights' start').fin (.no)
theorem e_law_due (sights' : List (List Int)) (start' : List (Int × Int)) : m_law_due sights' start' = (m_law_due_b sights' start').fin (.no) := by unfold m_law_due; rfl

/- check_sights -/
def m_check_sights_l2  (label' : Int)  : Out Unit Unit Unit :=
  ifO (.ok ((decide (label' < 0)) || (decide (12 ≤ label'))))
  (.ex ("BadBook", []))
  (.nx ())

def m_check_sights_l1 (worlds' : Int) (row' : List Int)  : Out Unit Unit Unit :=
  ifO (.ok (!decide ((row'.length : Int) = worlds')))
  (Out.up (.ex ("BadBook", [])))
  (((.ok row' : Res (List Int)).to fun l => forO (fun (label' : Int) => up0 (m_check_sights_l2 label')) l () : Out Unit _ _).seq (up0 (.nx ())))
def m_check_sights_b (sights' : List (List Int)) : Out Unit Unit Unit :=
  ifO (.ok ((decide ((sights'.length : Int) < 1)) || (decide (6 < (sights'.length : Int)))))
  (Out.up (.ex ("BadBook", [])))
  (((at_ sights' 0).bind fun v176 => .ok (v176.length : Int) : Res Int).to fun worlds' =>
  ifO (.ok ((decide (worlds' < 1)) || (decide (12 < worlds'))))
  (Out.up (.ex ("BadBook", [])))
  (((.ok sights' : Res (List (List Int))).to fun l => forO (fun (row' : List Int) => up0 (m_check_sights_l1 worlds' row')) l () : Out Unit _ _).seq (up0 (.nx ()))))
@[irreducible] def m_check_sights (sights' : List (List Int)) : Res Unit := (m_check_sights_b sights').fin (.ok ())
theorem e_check_sights (sights' : List (List Int)) : m_check_sights sights' = (m_check_sights_b sights').fin (.ok ()) := by unfold m_check_sights; rfl

/- check_odds -/
def m_check_odds_l2  (weight' : Int)  : Out Unit Unit Unit :=
  ifO (.ok ((decide (weight' < 0)) || (decide (10000000000000000000000000000000000000000 < weight'))))
  (.ex ("BadBook", []))
  (.nx ())

def m_check_odds_l1 (sights' : List (List Int)) (row' : List Int)  : Out Unit Unit Unit :=
  ifO (((at_ sights' 0).bind fun v177 => .ok (v177.length : Int)).bind fun v178 => .ok (!decide ((row'.length : Int) = v178)))
  (Out.up (.ex ("BadBook", [])))
  (((.ok row' : Res (List Int)).to fun l => forO (fun (weight' : Int) => up0 (m_check_odds_l2 weight')) l () : Out Unit _ _).seq (up0 (.nx ())))
def m_check_odds_b (sights' : List (List Int)) (odds' : List (List Int)) : Out Unit Unit Unit :=
  ifO (.ok (!decide ((odds'.length : Int) = (sights'.length : Int))))
  (Out.up (.ex ("BadBook", [])))
  (((.ok odds' : Res (List (List Int))).to fun l => forO (fun (row' : List Int) => up0 (m_check_odds_l1 sights' row')) l () : Out Unit _ _).seq (up0 (.nx ())))
@[irreducible] def m_check_odds (sights' : List (List Int)) (odds' : List (List Int)) : Res Unit := (m_check_odds_b sights' odds').fin (.ok ())
theorem e_check_odds (sights' : List (List Int)) (odds' : List (List Int)) : m_check_odds sights' odds' = (m_check_odds_b sights' odds').fin (.ok ()) := by unfold m_check_odds; rfl

/- numbered -/

/- gathered -/
def m_gathered_l1 (labels' : List Int) (world' : Int) (cells' : List (List Int)) : Out (List (List Int)) (List (List Int)) (List (List Int)) :=
  (at_ labels' world').calm.to fun v182 => (modAt cells' v182 fun y => app y world').calm.to fun cells' =>
  .nx cells'
def m_gathered_b (labels' : List Int) : Out Unit Unit (List (List Int)) :=
  ((((maxL labels').bind fun v179 => .ok (v179 + 1)).bind fun v180 => range1 v180).bind fun v181 => mapP v181 (fun (_' : Int) => []) : Res (List (List Int))).to fun cells' =>
  ((range1 (labels'.length : Int) : Res (List Int)).to fun l => forO (fun (world' : Int) => up1 (m_gathered_l1 labels' world')) l cells' : Out (List (List Int)) _ _).seq (up1 (fun (cells' : List (List Int)) => .rt cells'))
@[irreducible] def m_gathered (labels' : List Int) : Res (List (List Int)) := (m_gathered_b labels').fin (.no)
theorem e_gathered (labels' : List Int) : m_gathered labels' = (m_gathered_b labels').fin (.no) := by unfold m_gathered; rfl

/- lowest -/
def m_lowest_l2 (weights' : List Int) (world' : Int) (common' : Int) : Out Int Int (List Int) :=
  ((at_ weights' world').bind fun v183 => .ok (gcd_ common' v183) : Res Int).to fun common' =>
  .nx common'

def m_lowest_l3 (weights' : List Int) (common' : Int) (world' : Int) (told' : List Int) : Out (List Int) (List Int) (List Int) :=
  ((at_ weights' world').bind fun v187 => fdiv v187 common' : Res Int).to fun v188 => (setAt told' world' v188).to fun told' =>
  .nx told'

def m_lowest_l1 (person' : Int) (weights' : List Int) (cell' : List Int) (told' : List Int) : Out (List Int) (List Int) (List Int) :=
  (.ok 0 : Res Int).to fun common' =>
  ((.ok cell' : Res (List Int)).to fun l => forO (fun (world' : Int) => up1 (m_lowest_l2 weights' world')) l common' : Out Int _ _).seq (up1 (fun (common' : Int) => ifO (.ok (decide (common' = 0)))
  (Out.up (((((at_ cell' 0).bind fun v184 => .ok (dy (v184 : Int))).bind fun v185 => .ok (v185 :: [])).bind fun v186 => .ok ((dy (person' : Int)) :: v186) : Res (List Dy)).to fun l => .ex ("BadOdds", l)))
  (((.ok cell' : Res (List Int)).to fun l => forO (fun (world' : Int) => up1 (m_lowest_l3 weights' common' world')) l told' : Out (List Int) _ _).seq (up1 (fun (told' : List Int) => .nx told')))))
def m_lowest_b (person' : Int) (cells' : List (List Int)) (weights' : List Int) : Out Unit Unit (List Int) :=
  (.ok weights' : Res (List Int)).to fun told' =>
  ((.ok cells' : Res (List (List Int))).to fun l => forO (fun (cell' : List Int) => up1 (m_lowest_l1 person' weights' cell')) l told' : Out (List Int) _ _).seq (up1 (fun (told' : List Int) => .rt told'))
@[irreducible] def m_lowest (person' : Int) (cells' : List (List Int)) (weights' : List Int) : Res (List Int) := (m_lowest_b person' cells' weights').fin (.no)
theorem e_lowest (person' : Int) (cells' : List (List Int)) (weights' : List Int) : m_lowest person' cells' weights' = (m_lowest_b person' cells' weights').fin (.no) := by unfold m_lowest; rfl

/- Book.__init__ -/
def m_Book_init_l1 (odds' : List (List Int)) (s__cells : List (List (List Int))) (person' : Int) (s__weights : List (List Int)) (s__totals : List (List Int)) : Out ((List (List Int)) × (List (List Int))) ((List (List Int)) × (List (List Int))) Unit :=
  (exG ((((at_ s__cells person').bind fun v191 => ((at_ odds' person').bind fun v190 => .ok (v190, ())).bind fun v192 => .ok (v191, v192)).bind fun v193 => .ok (person', v193)).bind fun t => m_lowest t.1 t.2.1 t.2.2.1) : Res (List Int)).to fun weights' =>
  (app s__weights weights').to fun s__weights => ((at_ s__cells person').bind fun v195 => mapL v195 (fun (cell' : List Int) => (mapL cell' (fun (world' : Int) => at_ weights' world')).bind fun v194 => .ok v194.sum) : Res (List Int)).calm.to fun v196 => (app s__totals v196).to fun s__totals =>
  .nx (s__weights, s__totals)
def m_Book_init_b (sights' : List (List Int)) (odds' : List (List Int)) : Out Book Unit Unit :=
  (m_check_sights sights' : Res Unit).to fun _ =>
  (m_check_odds sights' odds' : Res Unit).to fun _ =>
  ((at_ sights' 0).bind fun v189 => .ok (v189.length : Int) : Res Int).to fun s_worlds =>
  (.ok (sights'.length : Int) : Res Int).to fun s_people =>
  (mapL sights' (fun (row' : List Int) => (m_numbered row').calm) : Res (List (List Int))).to fun s__labels =>
  (exG (mapL s__labels (fun (labels' : List Int) => (m_gathered labels').calm)) : Res (List (List (List Int)))).to fun s__cells =>
  (.ok [] : Res (List (List Int))).to fun s__weights =>
  (.ok [] : Res (List (List Int))).to fun s__totals =>
  ((range1 s_people : Res (List Int)).to fun l => forO (fun (person' : Int) => up2 (m_Book_init_l1 odds' s__cells person')) l (s__weights, s__totals) : Out ((List (List Int)) × (List (List Int))) _ _).seq (up2 (fun (s__weights : List (List Int)) (s__totals : List (List Int)) => .nx ⟨s_worlds, s_people, s__labels, s__cells, s__weights, s__totals⟩))
@[irreducible] def m_Book_init (sights' : List (List Int)) (odds' : List (List Int)) : Res Book := (m_Book_init_b sights' odds').made
theorem e_Book_init (sights' : List (List Int)) (odds' : List (List Int)) : m_Book_init sights' odds' = (m_Book_init_b sights' odds').made := by unfold m_Book_init; rfl

/- whole -/
def m_whole_l1  (_' : Int) (d' : Int) (factor' : Int) : Out Int Int ((List Int) × Int) :=
  (lcm_ factor' d' : Res Int).to fun factor' =>
  .nx factor'
def m_whole_b (numbers' : List (Int × Int)) : Out Unit Unit ((List Int) × Int) :=
  (.ok 1 : Res Int).to fun factor' =>
  ((.ok numbers' : Res (List (Int × Int))).to fun l => forO (fun (p197 : (Int × Int)) => up1 (m_whole_l1 p197.1 p197.2)) l factor' : Out Int _ _).seq (up1 (fun (factor' : Int) => ((mapL numbers' (fun (p199 : (Int × Int)) => (fun (n' : Int) (d' : Int) => (fdiv factor' d').bind fun v198 => mul n' v198) p199.1 p199.2)).bind fun v200 => .ok (v200, factor') : Res ((List Int) × Int)).to .rt))
@[irreducible] def m_whole (numbers' : List (Int × Int)) : Res ((List Int) × Int) := (m_whole_b numbers').fin (.no)
theorem e_whole (numbers' : List (Int × Int)) : m_whole numbers' = (m_whole_b numbers').fin (.no) := by unfold m_whole; rfl

/- ratio -/
def m_ratio_b (n' : Int) (d' : Int) : Out Unit Unit (Int × Int) :=
  ifO (.ok (decide (d' = 0)))
  (Out.up (.ex ("BadNumber", [])))
  ((ifO (.ok (decide (d' < 0)))
  ((.ok (-n') : Res Int).to fun n' =>
  (.ok (-d') : Res Int).to fun d' =>
  .nx (n', d'))
  (.nx (n', d')) : Out (Int × Int) _ _).seq (up2 (fun (n' : Int) (d' : Int) => (.ok (gcd_ n' d') : Res Int).to fun common' =>
  (((fdiv n' common').bind fun v204 => ((fdiv d' common').bind fun v203 => .ok (v203, ())).bind fun v205 => .ok (v204, v205)).bind fun t => .ok (t.1, t.2.1) : Res (Int × Int)).to .rt)))
@[irreducible] def m_ratio (n' : Int) (d' : Int) : Res (Int × Int) := (m_ratio_b n' d').fin (.no)
theorem e_ratio (n' : Int) (d' : Int) : m_ratio n' d' = (m_ratio_b n' d').fin (.no) := by unfold m_ratio; rfl

/- plus -/
def m_plus_l1  (n' : Int) (d' : Int) (top' : Int) (bottom' : Int) : Out (Int × Int) (Int × Int) (Int × Int) :=
  (.ok (gcd_ bottom' d') : Res Int).to fun common' =>
  (((fdiv d' common').bind fun v206 => mul top' v206).bind fun v208 => ((fdiv bottom' common').bind fun v207 => mul n' v207).bind fun v209 => .ok (v208 + v209) : Res Int).to fun top' =>
  ((fdiv bottom' common').bind fun v210 => mul v210 d' : Res Int).to fun bottom' =>
  .nx (top', bottom')
def m_plus_b (numbers' : Tu (Int × Int)) : Out Unit Unit (Int × Int) :=
  (.ok 0 : Res Int).to fun top' =>
  (.ok 1 : Res Int).to fun bottom' =>
  ((.ok numbers'.l : Res (List (Int × Int))).to fun l => forO (fun (p211 : (Int × Int)) => up2 (m_plus_l1 p211.1 p211.2)) l (top', bottom') : Out (Int × Int) _ _).seq (up2 (fun (top' : Int) (bottom' : Int) => ((m_ratio top' bottom').calm : Res (Int × Int)).to .rt))
@[irreducible] def m_plus (numbers' : Tu (Int × Int)) : Res (Int × Int) := (m_plus_b numbers').fin (.no)
theorem e_plus (numbers' : Tu (Int × Int)) : m_plus numbers' = (m_plus_b numbers').fin (.no) := by unfold m_plus; rfl

/- is_shares -/
def m_is_shares_l1  (n' : Int) (_' : Int)  : Out Unit Unit Bool :=
  ifO (.ok (decide (n' < 0)))
  (.rt false)
  (.nx ())
def m_is_shares_b (row' : List (Int × Int)) : Out Unit Unit Bool :=
  ((.ok row' : Res (List (Int × Int))).to fun l => forO (fun (p212 : (Int × Int)) => up0 (m_is_shares_l1 p212.1 p212.2)) l () : Out Unit _ _).seq (up0 ((((.ok row' : Res (List (Int × Int))).calm.bind fun l => if l.length ≤ 100000 then (m_plus ⟨l⟩).calm else .no).bind fun v213 => .ok (decide (v213 = ((1, 1) : Int × Int))) : Res Bool).to .rt))
@[irreducible] def m_is_shares (row' : List (Int × Int)) : Res Bool := (m_is_shares_b row').fin (.no)
theorem e_is_shares (row' : List (Int × Int)) : m_is_shares row' = (m_is_shares_b row').fin (.no) := by unfold m_is_shares; rfl

/- Book.from_start -/
def m_Book_from_start_l1 (sights' : List (List Int)) (weights' : List Int) (person' : Int) (odds' : List (List Int)) : Out (List (List Int)) (List (List Int)) Book :=
  ((((((((((at_ sights' person').bind fun v218 => .ok (v218, ())).bind fun t => m_numbered t.1).calm).bind fun v219 => .ok (v219, ())).bind fun t => m_gathered t.1).calm).bind fun v220 => .ok (v220, weights', ())).bind fun v221 => .ok (person', v221)).bind fun t => m_lowest t.1 t.2.1 t.2.2.1 : Res (List Int)).to fun v222 => (app odds' v222).to fun odds' =>
  .nx odds'
def m_Book_from_start_b (cls' : (Cl "Book")) (sights' : List (List Int)) (start' : List (Int × Int)) : Out Unit Unit Book :=
  (m_check_sights sights' : Res Unit).to fun _ =>
  ifO (orR (((at_ sights' 0).bind fun v214 => .ok (v214.length : Int)).bind fun v215 => .ok (!decide ((start'.length : Int) = v215))) (((m_is_shares start').calm).bind fun v216 => .ok (!v216)))
  (Out.up (.ex ("BadRow", [])))
  ((((m_whole start').calm).bind fun v217 => .ok v217.1 : Res (List Int)).to fun weights' =>
  (.ok [] : Res (List (List Int))).to fun odds' =>
  ((range1 (sights'.length : Int) : Res (List Int)).to fun l => forO (fun (person' : Int) => up1 (m_Book_from_start_l1 sights' weights' person')) l odds' : Out (List (List Int)) _ _).seq (up1 (fun (odds' : List (List Int)) => (m_Book_init sights' odds' : Res Book).to .rt)))
@[irreducible] def m_Book_from_start (cls' : (Cl "Book")) (sights' : List (List Int)) (start' : List (Int × Int)) : Res Book := (m_Book_from_start_b cls' sights' start').fin (.no)
theorem e_Book_from_start (cls' : (Cl "Book")) (sights' : List (List Int)) (start' : List (Int × Int)) : m_Book_from_start cls' sights' start' = (m_Book_from_start_b cls' sights' start').fin (.no) := by unfold m_Book_from_start; rfl

/- _law_plain -/
def m_law_plain_b (actual' : Dy) : Out Unit Unit Dy :=
  ifO (andR (isI isInt actual') ((isI isBool actual').bind fun v224 => .ok (!v224)))
  (Out.up (.rt actual'))
  (.rt (dy (("other" : Str) : Str)))
@[irreducible] def m_law_plain (actual' : Dy) : Res Dy := (m_law_plain_b actual').fin (.no)
theorem e_law_plain (actual' : Dy) : m_law_plain actual' = (m_law_plain_b actual').fin (.no) := by unfold m_law_plain; rfl

/- _law_ask -/
def m_law_ask_b (sights' : List (List Int)) (start' : List (Int × Int)) : Out Unit Unit (List Dy) :=
  (mapP sights' (fun (row' : List Int) => row') : Res (List (List Int))).to fun handed' =>
  (.ok start' : Res (List (Int × Int))).to fun row' =>
  (.ok [dy (("other" : Str) : Str)] : Res (List Dy)).to fun answer' =>
  (tryO ERRS
  (((((exG (m_Book_from_start ⟨⟩ handed' row')).bind fun v235 => .ok (dy (v235 : Book))).bind fun v236 => .ok (v236 :: [])).bind fun v237 => .ok ((dy (("told" : Str) : Str)) :: v237) : Res (List Dy)).to fun answer' => .nx answer')
  (fun e' => ((isX ERRS "BadBook" e').bind fun v243 => ((isX ERRS "BadRow" e').bind fun v241 => ((isX ERRS "BadOdds" e').bind fun v239 => ((isX ERRS "BadOrder" e').bind fun v238 => .ok (v238 :: [])).bind fun v240 => .ok (v239 :: v240)).bind fun v242 => .ok (v241 :: v242)).bind fun v244 => .ok (v243 :: v244) : Res (List Bool)).to fun kinds' =>
  (isX ERRS "BadText" e' : Res Bool).to fun v251 => (app kinds' v251).to fun kinds' =>
  (ifO (.ok (decide (kinds' = [true, false, false, false, false])))
  ((.ok [dy (("BadBook" : Str) : Str)] : Res (List Dy)).to fun answer' =>
  .nx answer')
  (.nx answer') : Out (List Dy) _ _).seq (up1 (fun (answer' : List Dy) => (ifO (.ok (decide (kinds' = [false, true, false, false, false])))
  ((.ok [dy (("BadRow" : Str) : Str)] : Res (List Dy)).to fun answer' =>
  .nx answer')
  (.nx answer') : Out (List Dy) _ _).seq (up1 (fun (answer' : List Dy) => ifO (.ok (decide (kinds' = [false, false, true, false, false])))
  (((((((xf XF_person e').bind fun v245 => .ok (v245, ())).bind fun t => m_law_plain t.1).calm).bind fun v248 => (((((xf XF_world e').bind fun v246 => .ok (v246, ())).bind fun t => m_law_plain t.1).calm).bind fun v247 => .ok (v247 :: [])).bind fun v249 => .ok (v248 :: v249)).bind fun v250 => .ok ((dy (("BadOdds" : Str) : Str)) :: v250) : Res (List Dy)).to fun answer' =>
  .nx answer')
  (.nx answer')))))) : Out (List Dy) _ _).seq (up1 (fun (answer' : List Dy) => ifO (.ok ((!decide (handed' = sights')) || (!decide (row' = start'))))
  (Out.up (.rt [dy (("changed" : Str) : Str)]))
  ((.ok (handed'.map fun _ => []) : Res (List (List Int))).to fun handed' =>
  (.ok [] : Res (List (Int × Int))).to fun row' =>
  .rt answer')))
@[irreducible] def m_law_ask (sights' : List (List Int)) (start' : List (Int × Int)) : Res (List Dy) := (m_law_ask_b sights' start').fin (.no)
theorem e_law_ask (sights' : List (List Int)) (start' : List (Int × Int)) : m_law_ask sights' start' = (m_law_ask_b sights' start').fin (.no) := by unfold m_law_ask; rfl

/- _law_same -/
def m_law_same_l1 (self_ : Dy → Dy → Res Bool) (actual' : Dy) (due' : Dy) (k' : Int)  : Out Unit Unit Bool :=
  ifO (((((atD actual' k').bind fun v262 => ((atD due' k').bind fun v261 => .ok (v261, ())).bind fun v263 => .ok (v262, v263)).bind fun t => self_ t.1 t.2.1).calm).bind fun v264 => .ok (!v264))
  (.rt false)
  (.nx ())
def m_law_same_b (self_ : Dy → Dy → Res Bool) (actual' : Dy) (due' : Dy) : Out Unit Unit Bool :=
  ifO (.ok (isNone due'))
  (Out.up (.rt (isNone actual')))
  (ifO (isI isInt due')
  (Out.up ((andR (isI isInt actual') (andR ((isI isBool actual').bind fun v252 => .ok (!v252)) (eqD actual' due')) : Res Bool).to .rt))
  ((ifO (isI isTup due')
  (ifO (orR ((isI isTup actual').bind fun v253 => .ok (!v253)) ((lenD actual').bind fun v254 => (lenD due').bind fun v255 => .ok (!decide (v254 = v255))))
  (.rt false)
  (.nx ()))
  (ifO (orR ((isI isLst actual').bind fun v256 => .ok (!v256)) ((lenD actual').bind fun v257 => (lenD due').bind fun v258 => .ok (!decide (v257 = v258))))
  (.rt false)
  (.nx ())) : Out Unit _ _).seq (up0 ((((lenD due').bind fun v260 => range1 v260 : Res (List Int)).to fun l => forO (fun (k' : Int) => up0 (m_law_same_l1 self_ actual' due' k')) l () : Out Unit _ _).seq (up0 (.rt true))))))
@[irreducible] noncomputable def m_law_same (n_ : Nat) : Dy → Dy → Res Bool := Nat.rec (motive := fun _ => Dy → Dy → Res Bool) (fun _ _ => .no) (fun _ ih actual' due' => (m_law_same_b ih actual' due').fin (.no)) n_
theorem z_law_same : m_law_same 0 = fun _ _ => .no := by unfold m_law_same; rfl
theorem e_law_same (n_ : Nat) (actual' : Dy) (due' : Dy) : m_law_same (n_ + 1) actual' due' = (m_law_same_b (m_law_same n_) actual' due').fin (.no) := by unfold m_law_same; rfl

/- Book.sights -/
def m_Book_sights_b (self' : Book) : Out Unit Unit (List (List Int)) :=
  (mapP self'.f__labels (fun (row' : List Int) => row') : Res (List (List Int))).to .rt
@[irreducible] def m_Book_sights (self' : Book) : Res (List (List Int)) := (m_Book_sights_b self').fin (.no)
theorem e_Book_sights (self' : Book) : m_Book_sights self' = (m_Book_sights_b self').fin (.no) := by unfold m_Book_sights; rfl

/- Book.odds -/
def m_Book_odds_b (self' : Book) : Out Unit Unit (List (List Int)) :=
  (mapP self'.f__weights (fun (row' : List Int) => row') : Res (List (List Int))).to .rt
@[irreducible] def m_Book_odds (self' : Book) : Res (List (List Int)) := (m_Book_odds_b self').fin (.no)
theorem e_Book_odds (self' : Book) : m_Book_odds self' = (m_Book_odds_b self').fin (.no) := by unfold m_Book_odds; rfl

/- _law_agrees -/
def m_law_agrees_b (sights' : List (List Int)) (start' : List (Int × Int)) : Out Unit Unit Bool :=
  ((m_law_due sights' start').calm : Res (List Dy)).to fun due' =>
  ((m_law_ask sights' start').calm : Res (List Dy)).to fun answer' =>
  ifO ((at_ due' 0).bind fun v265 => (eqD v265 (dy (("book" : Str) : Str))).bind fun c => .ok (!c))
  (Out.up ((eqD (dy (answer' : List Dy)) (dy (due' : List Dy)) : Res Bool).to .rt))
  (ifO (orR ((at_ answer' 0).bind fun v266 => (eqD v266 (dy (("told" : Str) : Str))).bind fun c => .ok (!c)) (((at_ answer' 1).bind fun v267 => isC "Book" v267).bind fun v268 => .ok (!v268)))
  (Out.up (.rt false))
  ((at_ answer' 1 : Res Dy).to fun book' =>
  ifO (orR (((((((cast Book book').bind fun v269 => .ok v269.f_worlds).bind fun v270 => .ok (dy (v270 : Int))).bind fun v275 => (((((at_ due' 1).bind fun v271 => atD v271 0).bind fun v272 => lenD v272).bind fun v273 => .ok (dy (v273 : Int))).bind fun v274 => .ok (v274, ())).bind fun v276 => .ok (v275, v276)).bind fun t => m_law_same 8 t.1 t.2.1).calm).bind fun v277 => .ok (!v277)) (((((((cast Book book').bind fun v278 => .ok v278.f_people).bind fun v279 => .ok (dy (v279 : Int))).bind fun v283 => ((((at_ due' 1).bind fun v280 => lenD v280).bind fun v281 => .ok (dy (v281 : Int))).bind fun v282 => .ok (v282, ())).bind fun v284 => .ok (v283, v284)).bind fun t => m_law_same 8 t.1 t.2.1).calm).bind fun v285 => .ok (!v285)))
  (Out.up (.rt false))
  ((andR ((((((((cast Book book').bind fun v286 => .ok (v286, ())).bind fun t => m_Book_sights t.1).calm).bind fun v287 => .ok (dy (v287 : List (List Int)))).bind fun v289 => ((at_ due' 1).bind fun v288 => .ok (v288, ())).bind fun v290 => .ok (v289, v290)).bind fun t => m_law_same 8 t.1 t.2.1).calm) ((((((((cast Book book').bind fun v291 => .ok (v291, ())).bind fun t => m_Book_odds t.1).calm).bind fun v292 => .ok (dy (v292 : List (List Int)))).bind fun v294 => ((at_ due' 2).bind fun v293 => .ok (v293, ())).bind fun v295 => .ok (v294, v295)).bind fun t => m_law_same 8 t.1 t.2.1).calm) : Res Bool).to .rt)))
@[irreducible] def m_law_agrees (sights' : List (List Int)) (start' : List (Int × Int)) : Res Bool := (m_law_agrees_b sights' start').fin (.no)
theorem e_law_agrees (sights' : List (List Int)) (start' : List (Int × Int)) : m_law_agrees sights' start' = (m_law_agrees_b sights' start').fin (.no) := by unfold m_law_agrees; rfl

/- law -/
def m_law_b (script' : Scr) : Out Unit Unit Bool :=
  ((m_law_sights script').calm : Res (List (List Int))).to fun sights' =>
  (exG ((m_law_counts script' sights').calm) : Res (List Int)).to fun counts' =>
  (mapL counts' (fun (n' : Int) => (m_law_ratio n' counts'.sum).calm) : Res (List (Int × Int))).to fun start' =>
  ifO ((((m_law_agrees sights' start').calm).bind fun v296 => .ok (!v296)).calm)
  (Out.up (.rt false))
  ((.ok start' : Res (List (Int × Int))).to fun spoilt' =>
  (((((((m_law_cell script' 9).calm).bind fun v297 => .ok (v297, [6, 12, 12, 2], ())).bind fun t => m_law_draws t.1 t.2.1).calm).bind fun v298 => .ok (v298, ())).bind fun t => m_law_spoil_start spoilt' t.1).calm.to fun spoilt' =>
  ifO ((((m_law_agrees sights' spoilt').calm).bind fun v299 => .ok (!v299)).calm)
  (Out.up (.rt false))
  ((((((m_law_cell script' 10).calm).bind fun v300 => .ok (v300, [7, 6, 12, 2, 2], ())).bind fun t => m_law_draws t.1 t.2.1).calm : Res (List Int)).to fun drawn' =>
  (m_law_spoil_sights sights' drawn').calm.to fun sights' =>
  ((((((at_ drawn' 4).bind fun v301 => at_ [start', spoilt'] v301).bind fun v302 => .ok (v302, ())).bind fun v303 => .ok (sights', v303)).bind fun t => m_law_agrees t.1 t.2.1).calm : Res Bool).to .rt))
@[irreducible] def m_law (script' : Scr) : Res Bool := (m_law_b script').fin (.no)
theorem e_law (script' : Scr) : m_law script' = (m_law_b script').fin (.no) := by unfold m_law; rfl
end

end FS
set_option linter.all false
set_option maxRecDepth 100000
set_option maxHeartbeats 4000000
set_option exponentiation.threshold 20000
namespace FB
open FS PySem
open Py (dy un)
/-! draws -/
def Dr : List Int → List Int → Prop
  | [], [] => True
  | x :: l, s :: m => (0 ≤ x ∧ x < s) ∧ Dr l m
  | _, _ => False
theorem Dr.app : ∀ {l m : List Int} {x s : Int}, Dr l m → 0 ≤ x → x < s → Dr (l ++ [x]) (m ++ [s])
  | [], [], x, s, _, h1, h2 => ⟨⟨h1, h2⟩, trivial⟩
  | y :: l, t :: m, x, s, h, h1, h2 => ⟨h.1, Dr.app h.2 h1 h2⟩
theorem Dr.len : ∀ {l m : List Int}, Dr l m → l.length = m.length
  | [], [], _ => rfl
  | y :: l, t :: m, h => by rw [List.length_cons, List.length_cons, Dr.len h.2]
theorem Dr.get : ∀ {l m : List Int} {k : Nat} {s : Int}, Dr l m → m[k]? = some s → ∃ x, l[k]? = some x ∧ 0 ≤ x ∧ x < s
  | [], [], k, s, _, h => by simp at h
  | y :: l, t :: m, 0, s, h, e => by cases e; exact ⟨y, rfl, h.1⟩
  | y :: l, t :: m, k + 1, s, h, e => Dr.get (l := l) (m := m) (k := k) h.2 e
theorem Dr.rep {l : List Int} {n : Nat} {s : Int} (h : Dr l (List.replicate n s)) : l.length = n ∧ ∀ x ∈ l, 0 ≤ x ∧ x < s := by
  refine ⟨by have := h.len; rwa [List.length_replicate] at this, fun x hx => ?_⟩
  obtain ⟨k, hk, e⟩ := List.getElem_of_mem hx
  have hl := h.len
  rw [List.length_replicate] at hl
  obtain ⟨y, h1, h2⟩ := h.get (k := k) (s := s) (by rw [List.getElem?_replicate, if_pos (by omega)])
  rw [List.getElem?_eq_getElem hk, e] at h1
  cases h1
  exact h2
theorem draws (cell : Int) {sizes : List Int} (hs : ∀ s ∈ sizes, 0 < s ∧ s.natAbs < 2 ^ 9000) (hl : sizes.length ≤ 1000) : ∃ l, m_law_draws cell sizes = .ok l ∧ Dr l sizes := by
  rw [e_law_draws]
  refine Res.W.ex_ok ?_
  unfold m_law_draws_b
  simp only [w_fin, w_to, w_ok, w_ifO, w_up, w_seq, w_no]
  split
  · refine w_for (I := fun k s => Dr s.1 (sizes.take k)) (fun k x s hk hi => ?_) trivial fun s hi => ?_
    · obtain ⟨told, rest⟩ := s
      have hx := hs x (List.mem_of_getElem? hk)
      have hkl := (List.getElem?_eq_some_iff.mp hk).1
      have h3 := hi.len
      rw [List.length_take] at h3
      show (m_law_draws_l1 x told rest).W _ _ _ _ _
      unfold m_law_draws_l1
      rw [fmod_k hx.1, fdiv_k hx.1 hx.2]
      simp only [w_to, w_ok, w_nx]
      rw [app_k (by dsimp only at h3; omega), w_ok, List.take_add_one, hk]
      exact hi.app (Int.emod_nonneg _ (by omega)) (Int.emod_lt_of_pos _ hx.1)
    · rw [List.take_length] at hi
      exact hi
  · rw [range1_k (n := sizes.length) (by omega)]
    simp only [w_ok]
    refine w_for (I := fun k s => Dr s.1 (sizes.take k)) (fun k x s hk hi => ?_) trivial fun s hi => ?_
    · obtain ⟨told, seed⟩ := s
      obtain ⟨rfl, hkl⟩ := range_get hk
      have hg : sizes[k]? = some sizes[k] := List.getElem?_eq_getElem hkl
      have hx := hs _ (List.mem_of_getElem? hg)
      have h3 := hi.len
      rw [List.length_take] at h3
      show (m_law_draws_l2 sizes k told seed).W _ _ _ _ _
      unfold m_law_draws_l2
      simp only [w_to, w_ok, w_nx, w_bind]
      rw [at_k hg]
      simp only [w_ok]
      rw [fmod_k hx.1, w_ok, app_k (by dsimp only at h3; omega), w_ok, List.take_add_one, hg]
      exact hi.app (Int.emod_nonneg _ (by omega)) (Int.emod_lt_of_pos _ hx.1)
    · rw [range_len, List.take_length] at hi
      exact hi
theorem lcell (s : Scr) {k : Int} (hk : 0 ≤ k) : ∃ c, m_law_cell s k = .ok c := by
  rw [e_law_cell]
  have h : ((m_law_cell_b s k).fin .no).W (fun _ => True) fun _ => False := by
    unfold m_law_cell_b
    simp only [w_fin, w_to, w_ok, w_ifO, w_up, w_rt]
    split
    · rename_i h
      have h : k < (s.ns.length : Int) := of_decide_eq_true h
      rw [at_k (k := k.toNat) (List.getElem?_eq_getElem (by omega)) (by omega)]
      trivial
    · trivial
  obtain ⟨c, e, _⟩ := h.ex_ok
  exact ⟨c, e⟩
/-- draws of a cell -/
theorem drawsC (s : Scr) {k : Int} (hk : 0 ≤ k) {sizes : List Int} (hs : ∀ s ∈ sizes, 0 < s ∧ s.natAbs < 2 ^ 9000) (hl : sizes.length ≤ 1000) : ∃ c l, m_law_cell s k = .ok c ∧ m_law_draws c sizes = .ok l ∧ Dr l sizes := by
  obtain ⟨c, e⟩ := lcell s hk
  obtain ⟨l, e2, h⟩ := draws c hs hl
  exact ⟨c, l, e, e2, h⟩
/-! gcd, by hand -/
theorem lgcd {a b : Int} (h0 : 0 ≤ a) (h1 : 0 ≤ b) (h2 : b.natAbs < 2 ^ 1999) : m_law_gcd a b = .ok ((Nat.gcd a.natAbs b.natAbs : Nat) : Int) := by
  obtain ⟨a, rfl⟩ : ∃ n : Nat, a = n := ⟨a.toNat, by omega⟩
  obtain ⟨b, rfl⟩ : ∃ n : Nat, b = n := ⟨b.toNat, by omega⟩
  rw [Int.natAbs_natCast] at h2
  rw [Int.natAbs_natCast, Int.natAbs_natCast, e_law_gcd]
  refine Res.W.eq ?_
  unfold m_law_gcd_b
  simp only [w_fin, w_seq, w_to]
  rw [range1_k (n := 4000) (by decide), w_ok]
  refine w_for (I := fun i s => ∃ x y : Nat, s = ((x : Int), (y : Int)) ∧ Eu a b x y i) (fun k x s hk hi => ?_) ⟨a, b, rfl, Eu.start a b⟩ fun s hi => ?_
  · obtain ⟨x, y, rfl, eu⟩ := hi
    show (m_law_gcd_l1 _ (x : Int) (y : Int)).W _ _ _ _ _
    unfold m_law_gcd_l1
    simp only [w_ifO, w_ok, w_up, w_rt, w_to]
    split
    · rename_i h
      have h : (y : Int) = 0 := of_decide_eq_true h
      rw [eu.stop (by omega)]
    · rename_i h
      have h : ¬ (y : Int) = 0 := fun e => h (decide_eq_true e)
      rw [fmod_k (by omega)]
      simp only [w_ok, w_nx]
      exact ⟨y, x % y, by rw [Int.natCast_emod], eu.turn (by omega)⟩
  · obtain ⟨x, y, rfl, eu⟩ := hi
    rw [range_len] at eu
    show (x : Int) = _
    rw [eu.stop (eu.done h2 (by decide))]
/-! labels, cells -/
def cI (l : List Nat) : List Int := l.map fun k : Nat => (k : Int)
theorem cI_len (l : List Nat) : (cI l).length = l.length := List.length_map _
theorem cI_get {l : List Nat} {k x : Nat} (h : l[k]? = some x) : (cI l)[k]? = some (x : Int) := by
  rw [cI, List.getElem?_map, h]
  rfl
theorem cI_inj {l m : List Nat} (h : cI l = cI m) : l = m := by
  refine List.map_inj_right (fun a b e => ?_) |>.mp h
  exact Int.ofNat.inj e
theorem numbI_eq (row : List Int) : numbI row = cI (numbN row) := by
  unfold numbI cI numbN
  rw [List.map_map]
  rfl
theorem numbered_ok {row : List Int} (h : row.length ≤ 1000) : m_numbered row = .ok (cI (numbN row)) := by
  rw [← numbI_eq]
  exact if_pos h
theorem index_k {l : List Int} {x : Int} (h : x ∈ l) : indexL l x = .ok ((l.findIdx (· == x) : Nat) : Int) := by
  unfold indexL
  have e : l.findIdx? (fun y => decide (y = x)) = some (l.findIdx (· == x)) := by
    have e2 : (fun y : Int => decide (y = x)) = (· == x) := by
      funext y
      exact (Bool.beq_eq_decide_eq y x).symm
    rw [e2]
    exact List.findIdx?_eq_some_of_exists ⟨x, h, beq_self_eq_true x⟩
  rw [e]
theorem lnumbered_ok {row : List Int} (h : row.length ≤ 1000) : m_law_numbered row = .ok (cI (numbN row)) := by
  rw [e_law_numbered]
  refine Res.W.eq ?_
  unfold m_law_numbered_b
  simp only [w_fin, w_to, w_ok, w_seq]
  refine w_fold (g := fun s x => if x ∈ s then s else s ++ [x]) (fun k x hk => ?_) ?_
  · show m_law_numbered_l1 x _ = _
    have hl := (List.getElem?_eq_some_iff.mp hk).1
    have hlen : ((row.take k).foldl (fun s x => if x ∈ s then s else s ++ [x]) []).length ≤ k := by
      have := (firsts_fold (row.take k) []).2
      rw [List.length_take] at this
      simp at this
      omega
    generalize (row.take k).foldl (fun s x => if x ∈ s then s else s ++ [x]) [] = s at hlen
    unfold m_law_numbered_l1
    by_cases hx : x ∈ s
    · simp [ifO, hx]
    · simp only [ifO, hx, Res.to_ok]
      rw [app_k (by omega)]
      rfl
  · show (mapL row fun label' => indexL (firsts row) label').W _ _
    rw [mapL_k (g := fun x => (((firsts row).findIdx (· == x) : Nat) : Int)) (fun x hx => index_k (mem_firsts hx)) (by omega)]
    exact numbI_eq row
def cII (l : List (List Nat)) : List (List Int) := l.map cI
theorem cI_at {l : List Nat} {k : Nat} (h : k < l.length) : at_ (cI l) (k : Int) = .ok ((l.getD k 0 : Nat) : Int) :=
  at_k (cI_get (by rw [List.getElem?_eq_getElem h, List.getD_eq_getElem?_getD, List.getElem?_eq_getElem h]; rfl))
/-- the cells so far -/
def gathK (lab : List Nat) (i : Nat) : List (List Nat) := (List.range (mxN lab + 1)).map fun c => cellN lab i c
theorem gathK_set {lab : List Nat} {i x : Nat} (h : lab[i]? = some x) : (gathK lab i).set x (cellN lab i x ++ [i]) = gathK lab (i + 1) := by
  have hx := mx_le (List.mem_of_getElem? h)
  refine List.ext_getElem? fun c => ?_
  rw [List.getElem?_set]
  unfold gathK
  rw [List.length_map, List.length_range, List.getElem?_map, List.getElem?_map]
  by_cases hc : c < mxN lab + 1
  · rw [List.getElem?_range hc]
    by_cases e : x = c
    · subst e
      rw [if_pos rfl, if_pos hc]
      show _ = some (cellN lab (i + 1) x)
      rw [cellN_succ h, if_pos rfl]
    · rw [if_neg e]
      show some (cellN lab i c) = some (cellN lab (i + 1) c)
      rw [cellN_succ h, if_neg e]
  · rw [if_neg (by omega), List.getElem?_eq_none (by rw [List.length_range]; omega)]
    rfl
theorem maxL_cI {lab : List Nat} (h : lab ≠ []) : maxL (cI lab) = .ok ((mxN lab : Nat) : Int) := by
  obtain ⟨m, e, hm, hb⟩ := maxL_k (l := cI lab) (by intro e; exact h (List.map_eq_nil_iff.mp e))
  rw [e]
  obtain ⟨y, hy, rfl⟩ := List.mem_map.mp hm
  have h1 := mx_le hy
  have h2 := hb _ (List.mem_map.mpr ⟨_, mx_mem h, rfl⟩)
  have e2 : y = mxN lab := by omega
  rw [e2]
theorem gathered_ok {lab : List Nat} (h : lab ≠ []) (hl : lab.length ≤ 1000) (hm : mxN lab < 1000) : m_gathered (cI lab) = .ok (cII (gathN lab)) := by
  rw [e_gathered]
  refine Res.W.eq ?_
  unfold m_gathered_b
  simp only [w_fin, w_to, w_seq, w_bind]
  rw [maxL_cI h]
  simp only [w_ok]
  have e1 : range1 (((mxN lab : Nat) : Int) + 1) = .ok ((List.range (mxN lab + 1)).map fun k : Nat => (k : Int)) := range1_k (n := mxN lab + 1) (by omega) (by omega)
  have e2 : range1 ((cI lab).length : Int) = .ok ((List.range lab.length).map fun k : Nat => (k : Int)) := range1_k (n := lab.length) (by omega) (by rw [cI_len])
  rw [e1, w_ok, mapP_k (by rw [range_len]; omega), w_ok, e2, w_ok]
  refine w_for (I := fun i s => s = cII (gathK lab i)) (fun k x s hk hs => ?_) ?_ fun s hs => ?_
  · subst hs
    obtain ⟨rfl, hkl⟩ := range_get hk
    have hg : lab[k]? = some lab[k] := List.getElem?_eq_getElem hkl
    have hx := mx_le (List.mem_of_getElem? hg)
    have hgd : lab.getD k 0 = lab[k] := by rw [List.getD_eq_getElem?_getD, hg]; rfl
    show (m_gathered_l1 (cI lab) (k : Int) _).W _ _ _ _ _
    unfold m_gathered_l1
    simp only [w_to, w_calm]
    rw [cI_at hkl, w_ok, hgd]
    have hc : (cII (gathK lab k))[lab[k]]? = some (cI (cellN lab k lab[k])) := by
      unfold cII gathK
      rw [List.map_map, List.getElem?_map, List.getElem?_range (by omega)]
      rfl
    unfold modAt
    simp only [w_bind]
    rw [at_k hc, w_ok, app_k (by rw [cI_len]; have := cellN_len lab k lab[k]; omega), w_ok, set_k (List.getElem?_eq_some_iff.mp hc).1, w_ok]
    show List.set _ _ _ = _
    rw [← gathK_set hg]
    unfold cII
    rw [List.map_set]
    unfold cI
    rw [List.map_append]
    rfl
  · show List.map _ _ = _
    unfold cII gathK
    rw [List.map_map, List.map_map]
    refine List.map_congr_left fun c hc => ?_
    rfl
  · rw [range_len] at hs
    exact hs
theorem filter_full {f : Nat → List Nat} {n : Nat} : ∀ {N : Nat}, n ≤ N → (∀ c, c < N → (f c ≠ [] ↔ c < n)) → ((List.range N).map f).filter (fun c => decide (c ≠ [])) = (List.range n).map f
  | 0, h, _ => by
    obtain rfl : n = 0 := by omega
    rfl
  | N + 1, h, hf => by
    rw [List.range_succ, List.map_append, List.filter_append]
    by_cases e : n = N + 1
    · subst e
      rw [List.filter_eq_self.mpr, List.filter_eq_self.mpr, ← List.map_append, ← List.range_succ]
      · intro c hc
        obtain ⟨k, hk, rfl⟩ := List.mem_map.mp hc
        rw [List.mem_singleton] at hk
        exact decide_eq_true ((hf k (by omega)).mpr (by omega))
      · intro c hc
        obtain ⟨k, hk, rfl⟩ := List.mem_map.mp hc
        rw [List.mem_range] at hk
        exact decide_eq_true ((hf k (by omega)).mpr (by omega))
    · rw [filter_full (f := f) (N := N) (by omega) fun c hc => hf c (by omega)]
      have h0 : f N = [] := by
        by_cases h1 : f N = []
        · exact h1
        · have := (hf N (by omega)).mp h1
          omega
      simp [h0]
theorem cellN_out {lab : List Nat} {c : Nat} (h : mxN lab < c) : cellN lab lab.length c = [] := by
  refine List.filter_eq_nil_iff.mpr fun w hw => ?_
  rw [List.mem_range] at hw
  intro e
  have e := of_decide_eq_true e
  have : lab.getD w 0 ∈ lab := by
    rw [List.getD_eq_getElem?_getD, List.getElem?_eq_getElem hw]
    exact List.getElem_mem hw
  have := mx_le this
  omega
theorem numb_ne {row : List Int} (h : 1 ≤ row.length) : numbN row ≠ [] := fun e => by
  have := numb_len row
  rw [e] at this
  have : (0 : Nat) = row.length := this
  omega
theorem mx_numb {row : List Int} (h : 1 ≤ row.length) : mxN (numbN row) < row.length := numb_lt (mx_mem (numb_ne h))
theorem lcells_ok {row : List Int} (h : 1 ≤ row.length) (hl : row.length ≤ 12) : m_law_cells (cI (numbN row)) = .ok (cII (bkCells row)) := by
  rw [e_law_cells]
  refine Res.W.eq ?_
  unfold m_law_cells_b
  simp only [w_fin, w_to, w_ok, w_seq]
  have e1 : range1 12 = .ok ((List.range 12).map fun k : Nat => (k : Int)) := range1_k (n := 12) (by decide)
  rw [e1, w_ok]
  have hn := numb_len row
  generalize hlab : numbN row = lab at hn
  refine w_for (I := fun k s => s = cII (((List.range k).map (cellN lab lab.length)).filter fun c => decide (c ≠ []))) (fun k x s hk hs => ?_) rfl fun s hs => ?_
  · subst hs
    obtain ⟨rfl, hkl⟩ := range_get hk
    show (m_law_cells_l1 (cI lab) (k : Int) _).W _ _ _ _ _
    unfold m_law_cells_l1
    have e2 : range1 ((cI lab).length : Int) = .ok ((List.range lab.length).map fun k : Nat => (k : Int)) := range1_k (n := lab.length) (by omega) (by rw [cI_len])
    have e3 : (mapIf ((List.range lab.length).map fun k : Nat => (k : Int)) (fun w' : Int => (at_ (cI lab) w').bind fun v154 => .ok (decide (v154 = (k : Int)))) (fun w' => .ok w')) = .ok (cI (cellN lab lab.length k)) := by
      rw [mapIf_k (p := fun w => decide (((lab.getD w.toNat 0 : Nat) : Int) = (k : Int))) (g := fun w => w) (fun w hw => ?_) (fun _ _ _ => rfl) (by rw [range_len]; omega)]
      · rw [List.map_id']
        unfold cI cellN
        rw [List.filter_map]
        congr 2
        refine List.filter_congr fun w _ => ?_
        show decide _ = decide _
        refine decide_eq_decide.mpr ?_
        show ((lab.getD ((w : Int)).toNat 0 : Nat) : Int) = (k : Int) ↔ _
        rw [Int.toNat_natCast]
        omega
      · obtain ⟨j, hj, rfl⟩ := List.mem_map.mp hw
        rw [List.mem_range] at hj
        rw [cI_at hj, Int.toNat_natCast]
        rfl
    simp only [w_to, w_bind]
    rw [e2, w_ok, e3, w_ok, w_ifO, w_ok]
    have hk12 : (((List.range k).map (cellN lab lab.length)).filter fun c => decide (c ≠ [])).length ≤ k := by
      refine Nat.le_trans (List.length_filter_le _ _) ?_
      rw [List.length_map, List.length_range]
      exact Nat.le_refl _
    rw [List.range_succ, List.map_append, List.filter_append]
    by_cases hc : cellN lab lab.length k = []
    · rw [hc, if_neg (by decide), w_nx]
      simp [hc]
    · have hp : decide (0 < ((cI (cellN lab lab.length k)).length : Int)) = true := by
        refine decide_eq_true ?_
        rw [cI_len]
        have := List.length_pos_iff.mpr hc
        omega
      rw [if_pos hp, w_to, app_k (by unfold cII; rw [List.length_map]; omega), w_ok, w_nx]
      simp [hc, cII]
  · rw [hs, range_len]
    show cII _ = cII (gathN (numbN row))
    rw [filter_full (n := mxN lab + 1) (by have := mx_numb h; rw [hlab] at this; omega) fun c hc => ⟨fun h1 => ?_, fun h1 => ?_⟩, hlab]
    · rfl
    · by_cases h2 : c < mxN lab + 1
      · exact h2
      · exact absurd (cellN_out (by omega)) h1
    · refine (cells_ok (row := row) h (c := cellN lab lab.length c) ?_).1
      unfold bkCells gathN
      rw [hlab]
      exact List.mem_map.mpr ⟨c, List.mem_range.mpr h1, rfl⟩
/-! lowest form -/
/-- the first world of the first cell without weight -/
def firstBad (C : List (List Nat)) (ws : List Int) : Option Nat := (C.find? fun c => gcdC ws c == 0).map fun c => c.headD 0
theorem ws_at {ws : List Int} {w : Nat} (h : w < ws.length) : at_ ws (w : Int) = .ok (ws.getD w 0) :=
  at_k (by rw [List.getElem?_eq_getElem h, List.getD_eq_getElem?_getD, List.getElem?_eq_getElem h]; rfl)
theorem cI_mem {c : List Nat} {k : Nat} {x : Int} (h : (cI c)[k]? = some x) : ∃ w : Nat, c[k]? = some w ∧ x = (w : Int) := by
  rw [cI, List.getElem?_map] at h
  obtain ⟨w, h1, h2⟩ := Option.map_eq_some_iff.mp h
  exact ⟨w, h1, h2.symm⟩
theorem head_at {c : List Nat} (h : c ≠ []) : at_ (cI c) 0 = .ok ((c.headD 0 : Nat) : Int) := by
  cases c with
  | nil => exact absurd rfl h
  | cons w c => exact at_k (k := 0) rfl
theorem gcdC_lt {ws : List Int} {c : List Nat} {m : Nat} (h : ∀ w ∈ c, (ws.getD w 0).natAbs < m) (h0 : gcdC ws c ≠ 0) (hc : c ≠ []) : gcdC ws c < m := by
  by_cases hz : ∃ w ∈ c, (ws.getD w 0).natAbs ≠ 0
  · obtain ⟨w, hw, hn⟩ := hz
    have h1 := Nat.le_of_dvd (Nat.pos_of_ne_zero hn) (gcdC_le (Nat.pos_of_ne_zero h0) hw)
    exact Nat.lt_of_le_of_lt h1 (h w hw)
  · exfalso
    apply h0
    have : ∀ l : List Nat, (∀ w ∈ l, (ws.getD w 0).natAbs = 0) → l.foldl (fun g w => Nat.gcd g (ws.getD w 0).natAbs) 0 = 0 := by
      intro l
      induction l with
      | nil => exact fun _ => rfl
      | cons w l ih =>
        intro hl
        rw [List.foldl_cons, hl w List.mem_cons_self, Nat.gcd_zero_right]
        exact ih fun v hv => hl v (List.mem_cons_of_mem _ hv)
    refine this c fun w hw => ?_
    by_cases e : (ws.getD w 0).natAbs = 0
    · exact e
    · exact absurd ⟨w, hw, e⟩ hz
/-- what both keep of their loops over the cells -/
theorem find_bad {C : List (List Nat)} {ws : List Int} {k : Nat} {c : List Nat} (h : C[k]? = some c) (hi : ∀ c ∈ C.take k, gcdC ws c ≠ 0) (h0 : gcdC ws c = 0) : firstBad C ws = some (c.headD 0) := by
  have hk := (List.getElem?_eq_some_iff.mp h).1
  have e : C = C.take k ++ c :: C.drop (k + 1) := by
    have := List.take_append_drop k C
    rw [List.drop_eq_getElem_cons hk, (List.getElem?_eq_some_iff.mp h).2] at this
    exact this.symm
  unfold firstBad
  rw [e, List.find?_append, List.find?_eq_none.mpr (fun x hx => by simpa using hi x hx)]
  simp [h0]
theorem find_none {C : List (List Nat)} {ws : List Int} (h : ∀ c ∈ C, gcdC ws c ≠ 0) : firstBad C ws = none := by
  unfold firstBad
  rw [List.find?_eq_none.mpr fun x hx => by simpa using h x hx]
  rfl
structure CellsOk (C : List (List Nat)) (ws : List Int) : Prop where
  ne : ∀ c ∈ C, c ≠ []
  lt : ∀ c ∈ C, ∀ w ∈ c, w < ws.length
  nn : ∀ x ∈ ws, 0 ≤ x
  bd : ∀ x ∈ ws, x.natAbs < 2 ^ 1999
theorem CellsOk.wt {C : List (List Nat)} {ws : List Int} (h : CellsOk C ws) {w : Nat} (hw : w < ws.length) : 0 ≤ ws.getD w 0 ∧ (ws.getD w 0).natAbs < 2 ^ 1999 := by
  have : ws.getD w 0 ∈ ws := by
    rw [List.getD_eq_getElem?_getD, List.getElem?_eq_getElem hw]
    exact List.getElem_mem hw
  exact ⟨h.nn _ this, h.bd _ this⟩
theorem setC_W {S R : Type} {f : Int → List Int → Out (List Int) (List Int) R} {ws : List Int} {g : Nat} {c : List Nat} {t : List Int} {Q : R → Prop} {E : Xn → Prop} {N : List Int → Prop} {B CC : S → Prop} (hf : ∀ (x : Int) (s : List Int), f x s = (((at_ ws x).bind fun v => fdiv v (g : Int) : Res Int).to fun v => (setAt s x v).to fun s => .nx s))
    (hg : 0 < g) (hg2 : g < 2 ^ 9000) (hl : t.length = ws.length) (hc : ∀ w ∈ c, w < ws.length) (hn : N (c.foldl (fun t w => t.set w (ws.getD w 0 / (g : Int))) t)) : (forO f (cI c) t : Out (List Int) S R).W N Q E B CC := by
  have e : (cI c).foldl (fun t x => t.set x.toNat (ws.getD x.toNat 0 / (g : Int))) t = c.foldl (fun t w => t.set w (ws.getD w 0 / (g : Int))) t := by
    unfold cI
    rw [List.foldl_map]
    rfl
  refine w_fold (g := fun t x => t.set x.toNat (ws.getD x.toNat 0 / (g : Int))) (fun k x hk => ?_) (by rw [e]; exact hn)
  obtain ⟨w, h1, rfl⟩ := cI_mem hk
  have hw := hc w (List.mem_of_getElem? h1)
  have hlen : ∀ (l : List Int) (s : List Int), (l.foldl (fun t x => t.set x.toNat (ws.getD x.toNat 0 / (g : Int))) s).length = s.length := by
    intro l
    induction l with
    | nil => exact fun s => rfl
    | cons y l ih => intro s; rw [List.foldl_cons, ih, List.length_set]
  rw [hf, ws_at hw, Res.bind_ok, fdiv_k (by omega) (by rw [Int.natAbs_natCast]; exact hg2), Res.to_ok, set_k (by rw [hlen, hl]; exact hw), Res.to_ok, Int.toNat_natCast]
theorem lowest_ok {p : Int} {C : List (List Nat)} {ws : List Int} (h : CellsOk C ws) : m_lowest p (cII C) ws = match firstBad C ws with | none => .ok (lowN C ws) | some w => .ex ("BadOdds", [.int p, .int (w : Int)]) := by
  rw [e_lowest]
  refine Res.W.is ?_
  unfold m_lowest_b
  simp only [w_fin, w_to, w_ok, w_seq]
  refine w_for (I := fun k s => (∀ c ∈ C.take k, gcdC ws c ≠ 0) ∧ s = (C.take k).foldl (fun t cell => lowC ws cell t) ws) (fun k x s hk hi => ?_) ⟨fun c hc => (nomatch hc), rfl⟩ fun s hi => ?_
  · obtain ⟨hb, rfl⟩ := hi
    rw [cII, List.getElem?_map] at hk
    obtain ⟨c, hc, rfl⟩ := Option.map_eq_some_iff.mp hk
    have hm := List.mem_of_getElem? hc
    show (m_lowest_l1 p ws (cI c) _).W _ _ _ _ _
    unfold m_lowest_l1
    simp only [w_to, w_ok, w_seq]
    refine w_fold (g := fun g w => gcd_ g (ws.getD w.toNat 0)) (fun j y hy => ?_) ?_
    · obtain ⟨w, h1, rfl⟩ := cI_mem hy
      show m_lowest_l2 ws (w : Int) _ = _
      unfold m_lowest_l2
      rw [ws_at (h.lt c hm w (List.mem_of_getElem? h1)), Int.toNat_natCast]
      rfl
    · have e : (cI c).foldl (fun g w => gcd_ g (ws.getD w.toNat 0)) 0 = ((gcdC ws c : Nat) : Int) := by
        unfold cI gcdC
        rw [List.foldl_map]
        have : ∀ (l : List Nat) (a : Nat), l.foldl (fun (g : Int) (w : Nat) => gcd_ g (ws.getD ((w : Int)).toNat 0)) (a : Int) = ((l.foldl (fun g w => Nat.gcd g (ws.getD w 0).natAbs) a : Nat) : Int) := by
          intro l
          induction l with
          | nil => exact fun a => rfl
          | cons y l ih => intro a; rw [List.foldl_cons, List.foldl_cons, ← ih]; rfl
        exact this c 0
      rw [e]
      try dsimp only [up1]
      rw [w_ifO, w_ok]
      by_cases h0 : gcdC ws c = 0
      · rw [if_pos (decide_eq_true (by omega))]
        simp only [w_up, w_to, w_bind]
        rw [head_at (h.ne c hm)]
        simp only [w_ok, w_exO]
        rw [find_bad hc hb h0]
        rfl
      · rw [if_neg (by rw [decide_eq_true_eq]; omega)]
        simp only [w_seq, w_to, w_ok]
        refine setC_W (fun _ _ => rfl) (by omega) (Nat.lt_trans (gcdC_lt (fun w hw => (h.wt (h.lt c hm w hw)).2) h0 (h.ne c hm)) (Nat.pow_lt_pow_right (by decide) (by decide))) (by rw [lowN_len]) (h.lt c hm) ?_
        try dsimp only [up1]
        rw [w_nx]
        refine ⟨fun c' hc' => ?_, (foldl_take (f := fun t cell => lowC ws cell t) hc).symm⟩
        rw [List.take_add_one, hc] at hc'
        rcases List.mem_append.mp hc' with hc' | hc'
        · exact hb c' hc'
        · rw [List.mem_singleton.mp hc']
          exact h0
  · obtain ⟨hb, rfl⟩ := hi
    rw [cII, List.length_map, List.take_length] at hb ⊢
    try dsimp only [up1]
    rw [w_rt, find_none hb]
    rfl
theorem llowest_ok {C : List (List Nat)} {ws : List Int} (h : CellsOk C ws) : m_law_lowest (cII C) ws = .ok (match firstBad C ws with | none => dy (lowN C ws) | some w => dy (w : Int)) := by
  rw [e_law_lowest]
  refine Res.W.is ?_
  unfold m_law_lowest_b
  simp only [w_fin, w_to, w_ok, w_seq]
  refine w_for (I := fun k s => (∀ c ∈ C.take k, gcdC ws c ≠ 0) ∧ s = (C.take k).foldl (fun t cell => lowC ws cell t) ws) (fun k x s hk hi => ?_) ⟨fun c hc => (nomatch hc), rfl⟩ fun s hi => ?_
  · obtain ⟨hb, rfl⟩ := hi
    rw [cII, List.getElem?_map] at hk
    obtain ⟨c, hc, rfl⟩ := Option.map_eq_some_iff.mp hk
    have hm := List.mem_of_getElem? hc
    show (m_law_lowest_l1 ws (cI c) _).W _ _ _ _ _
    unfold m_law_lowest_l1
    simp only [w_to, w_ok, w_seq]
    refine w_for (I := fun j g => g = (((c.take j).foldl (fun g w => Nat.gcd g (ws.getD w 0).natAbs) 0 : Nat) : Int)) (fun j y g hy hg => ?_) rfl fun g hg => ?_
    · subst hg
      obtain ⟨w, h1, rfl⟩ := cI_mem hy
      have hw := h.wt (h.lt c hm w (List.mem_of_getElem? h1))
      show (m_law_lowest_l2 ws (w : Int) _).W _ _ _ _ _
      unfold m_law_lowest_l2
      simp only [w_to, w_calm, w_bind]
      rw [ws_at (h.lt c hm w (List.mem_of_getElem? h1))]
      simp only [w_ok]
      rw [lgcd (by omega) hw.1 hw.2, w_ok, w_nx, foldl_take h1, Int.natAbs_natCast]
    · rw [cI_len, List.take_length] at hg
      have e : g = ((gcdC ws c : Nat) : Int) := hg
      subst e
      try dsimp only [up1]
      rw [w_ifO, w_ok]
      by_cases h0 : gcdC ws c = 0
      · rw [if_pos (decide_eq_true (by omega))]
        simp only [w_up, w_to, w_bind]
        rw [head_at (h.ne c hm)]
        simp only [w_ok, w_rt]
        rw [find_bad hc hb h0]
      · rw [if_neg (by rw [decide_eq_true_eq]; omega)]
        simp only [w_seq, w_to, w_ok]
        refine setC_W (fun _ _ => rfl) (by omega) (Nat.lt_trans (gcdC_lt (fun w hw => (h.wt (h.lt c hm w hw)).2) h0 (h.ne c hm)) (Nat.pow_lt_pow_right (by decide) (by decide))) (by rw [lowN_len]) (h.lt c hm) ?_
        try dsimp only [up1]
        rw [w_nx]
        refine ⟨fun c' hc' => ?_, (foldl_take (f := fun t cell => lowC ws cell t) hc).symm⟩
        rw [List.take_add_one, hc] at hc'
        rcases List.mem_append.mp hc' with hc' | hc'
        · exact hb c' hc'
        · rw [List.mem_singleton.mp hc']
          exact h0
  · obtain ⟨hb, rfl⟩ := hi
    rw [cII, List.length_map, List.take_length] at hb ⊢
    try dsimp only [up1]
    rw [w_rt, find_none hb]
    rfl
/-! the rows of a book -/
def Fits (sights : List (List Int)) : Prop := ∃ n, (1 ≤ n ∧ n ≤ 12) ∧ (1 ≤ sights.length ∧ sights.length ≤ 6) ∧ ∀ r ∈ sights, r.length = n ∧ ∀ x ∈ r, 0 ≤ x ∧ x < 12
theorem Fits.width {sights : List (List Int)} (h : Fits sights) {r : List Int} (hr : sights[0]? = some r) : (1 ≤ r.length ∧ r.length ≤ 12) ∧ (1 ≤ sights.length ∧ sights.length ≤ 6) ∧ ∀ x ∈ sights, x.length = r.length ∧ ∀ y ∈ x, 0 ≤ y ∧ y < 12 := by
  obtain ⟨n, h1, h2, h3⟩ := h
  have := (h3 r (List.mem_of_getElem? hr)).1
  subst this
  exact ⟨h1, h2, h3⟩
theorem check_sights_ok {sights : List (List Int)} : (Fits sights → m_check_sights sights = .ok ()) ∧ (¬ Fits sights → m_check_sights sights = .ex ("BadBook", [])) := by
  suffices h : (m_check_sights sights).W (fun _ => Fits sights) (fun z => z = ("BadBook", []) ∧ ¬ Fits sights) by
    cases e : m_check_sights sights with
    | ok u => rw [e] at h; exact ⟨fun _ => rfl, fun n => absurd h n⟩
    | ex z => rw [e] at h; exact ⟨fun f => absurd f h.2, fun n => by rw [h.1]⟩
    | no => rw [e] at h; exact h.elim
  rw [e_check_sights]
  unfold m_check_sights_b
  simp only [w_fin, w_to, w_ok, w_ifO, w_up, w_exO, w_bind, w_seq]
  split
  · rename_i h
    refine ⟨trivial, fun f => ?_⟩
    obtain ⟨n, _, h2, _⟩ := f
    have h : (sights.length : Int) < 1 ∨ 6 < (sights.length : Int) := by simpa using h
    omega
  · rename_i h
    have h : ¬ ((sights.length : Int) < 1 ∨ 6 < (sights.length : Int)) := by simpa using h
    have h0 : sights[0]? = some sights[0] := List.getElem?_eq_getElem (by omega)
    rw [at_k (k := 0) h0]
    simp only [w_ok]
    split
    · rename_i h1
      refine ⟨trivial, fun f => ?_⟩
      have := f.width h0
      have h1 : (sights[0].length : Int) < 1 ∨ 12 < (sights[0].length : Int) := by simpa using h1
      omega
    · rename_i h1
      have h1 : ¬ ((sights[0].length : Int) < 1 ∨ 12 < (sights[0].length : Int)) := by simpa using h1
      refine w_for (I := fun k _ => ∀ r ∈ sights.take k, r.length = sights[0].length ∧ ∀ x ∈ r, 0 ≤ x ∧ x < 12) (fun k r s hk hi => ?_) (fun r hr => nomatch hr) fun s hi => ?_
      · have hm := List.mem_of_getElem? hk
        show (m_check_sights_l1 _ r).W _ _ _ _ _
        unfold m_check_sights_l1
        simp only [w_ifO, w_ok, w_up, w_exO, w_seq, w_to]
        split
        · rename_i h2
          refine ⟨trivial, fun f => ?_⟩
          have := ((f.width h0).2.2 r hm).1
          rw [this] at h2
          simp at h2
        · rename_i h2
          have h2 : (r.length : Int) = (sights[0].length : Int) := by simpa using h2
          refine w_for (I := fun j _ => ∀ x ∈ r.take j, 0 ≤ x ∧ x < 12) (fun j x s hj hi2 => ?_) (fun x hx => nomatch hx) fun s hi2 => ?_
          · show (m_check_sights_l2 x).W _ _ _ _ _
            unfold m_check_sights_l2
            simp only [w_ifO, w_ok, w_exO, w_nx]
            split
            · rename_i h3
              refine ⟨trivial, fun f => ?_⟩
              have := ((f.width h0).2.2 r hm).2 x (List.mem_of_getElem? hj)
              have h3 : x < 0 ∨ 12 ≤ x := by simpa using h3
              omega
            · rename_i h3
              have h3 : ¬ (x < 0 ∨ 12 ≤ x) := by simpa using h3
              intro y hy
              rw [List.take_add_one, hj] at hy
              rcases List.mem_append.mp hy with hy | hy
              · exact hi2 y hy
              · rw [List.mem_singleton.mp hy]
                omega
          · rw [List.take_length] at hi2
            try dsimp only [up0]
            rw [w_nx]
            intro y hy
            rw [List.take_add_one, hk] at hy
            rcases List.mem_append.mp hy with hy | hy
            · exact hi y hy
            · rw [List.mem_singleton.mp hy]
              exact ⟨by omega, hi2⟩
      · rw [List.take_length] at hi
        try dsimp only [up0]
        rw [w_nx]
        exact ⟨sights[0].length, by omega, by omega, hi⟩
theorem lfits_ok {sights : List (List Int)} : (Fits sights → m_law_fits sights = .ok true) ∧ (¬ Fits sights → m_law_fits sights = .ok false) := by
  suffices h : (m_law_fits sights).W (fun b => b = true ↔ Fits sights) (fun _ => False) by
    obtain ⟨b, e, hb⟩ := h.ex_ok
    rw [e]
    refine ⟨fun f => by rw [hb.mpr f], fun n => ?_⟩
    cases b with
    | true => exact absurd (hb.mp rfl) n
    | false => rfl
  rw [e_law_fits]
  unfold m_law_fits_b
  simp only [w_fin, w_to, w_ok, w_ifO, w_up, w_rt, w_bind, w_seq, w_orR]
  by_cases hl : 1 ≤ sights.length ∧ sights.length ≤ 6
  case neg =>
    have e : ¬ Fits sights := fun ⟨n, _, h2, _⟩ => hl h2
    by_cases h1 : (sights.length : Int) < 1
    · rw [if_pos (decide_eq_true h1), if_pos trivial]
      exact ⟨fun h => (nomatch h), fun f => absurd f e⟩
    · rw [if_neg (by simpa using h1), if_pos (decide_eq_true (by omega)), if_pos trivial]
      exact ⟨fun h => (nomatch h), fun f => absurd f e⟩
  have h0 : sights[0]? = some sights[0] := List.getElem?_eq_getElem (by omega)
  rw [if_neg (by rw [decide_eq_true_eq]; omega), if_neg (by rw [decide_eq_true_eq]; omega), at_k (k := 0) h0]
  simp only [w_ok]
  by_cases hw : 1 ≤ sights[0].length ∧ sights[0].length ≤ 12
  case neg =>
    have e : ¬ Fits sights := fun f => hw (f.width h0).1
    by_cases h1 : (sights[0].length : Int) < 1
    · rw [if_pos (decide_eq_true h1), if_pos trivial]
      exact ⟨fun h => (nomatch h), fun f => absurd f e⟩
    · rw [if_neg (by simpa using h1), if_pos (decide_eq_true (by omega))]
      exact ⟨fun h => (nomatch h), fun f => absurd f e⟩
  rw [if_neg (by rw [decide_eq_true_eq]; omega), if_neg (by rw [decide_eq_true_eq]; omega)]
  refine w_for (I := fun k _ => ∀ r ∈ sights.take k, r.length = sights[0].length ∧ ∀ x ∈ r, 0 ≤ x ∧ x < 12) (fun k r s hk hi => ?_) (fun r hr => nomatch hr) fun s hi => ?_
  · have hm := List.mem_of_getElem? hk
    show (m_law_fits_l1 sights r).W _ _ _ _ _
    unfold m_law_fits_l1
    simp only [w_ifO, w_orR, w_bind, w_ok, w_rt, w_nx]
    rw [at_k (k := 0) h0]
    simp only [w_ok]
    by_cases h2 : r.length = sights[0].length
    case neg =>
      rw [if_pos (by simp; omega), if_pos trivial]
      exact ⟨fun h => (nomatch h), fun f => absurd ((f.width h0).2.2 r hm).1 h2⟩
    obtain ⟨lo, el, hl1, hl2⟩ := minL_k (l := r) (by intro e; rw [e] at h2; have : (0 : Nat) = sights[0].length := h2; omega)
    obtain ⟨hi', eh, hh1, hh2⟩ := maxL_k (l := r) (by intro e; rw [e] at h2; have : (0 : Nat) = sights[0].length := h2; omega)
    rw [if_neg (by simp [h2]), el, eh]
    simp only [w_ok]
    by_cases h3 : lo < 0
    · rw [if_pos (decide_eq_true h3), if_pos trivial]
      exact ⟨fun h => (nomatch h), fun f => absurd (((f.width h0).2.2 r hm).2 lo hl1).1 (by omega)⟩
    · rw [if_neg (by simpa using h3)]
      by_cases h4 : 11 < hi'
      · rw [if_pos (decide_eq_true h4)]
        exact ⟨fun h => (nomatch h), fun f => absurd (((f.width h0).2.2 r hm).2 hi' hh1).2 (by omega)⟩
      · rw [if_neg (by simpa using h4)]
        intro y hy
        rw [List.take_add_one, hk] at hy
        rcases List.mem_append.mp hy with hy | hy
        · exact hi y hy
        · rw [List.mem_singleton.mp hy]
          refine ⟨h2, fun x hx => ?_⟩
          have := hl2 x hx
          have := hh2 x hx
          omega
  · rw [List.take_length] at hi
    exact ⟨fun _ => ⟨sights[0].length, by omega, hl, hi⟩, fun _ => trivial⟩
theorem check_odds_ok {sights odds : List (List Int)} {r0 : List Int} (h0 : sights[0]? = some r0) (hl : odds.length = sights.length) (hr : ∀ r ∈ odds, r.length = r0.length ∧ ∀ x ∈ r, 0 ≤ x) :
    ((∀ r ∈ odds, ∀ x ∈ r, x ≤ 10 ^ 40) → m_check_odds sights odds = .ok ()) ∧ (¬ (∀ r ∈ odds, ∀ x ∈ r, x ≤ 10 ^ 40) → m_check_odds sights odds = .ex ("BadBook", [])) := by
  suffices h : (m_check_odds sights odds).W (fun _ => ∀ r ∈ odds, ∀ x ∈ r, x ≤ 10 ^ 40) (fun z => z = ("BadBook", []) ∧ ¬ ∀ r ∈ odds, ∀ x ∈ r, x ≤ 10 ^ 40) by
    cases e : m_check_odds sights odds with
    | ok u => rw [e] at h; exact ⟨fun _ => rfl, fun n => absurd h n⟩
    | ex z => rw [e] at h; exact ⟨fun f => absurd f h.2, fun n => by rw [h.1]⟩
    | no => rw [e] at h; exact h.elim
  rw [e_check_odds]
  unfold m_check_odds_b
  simp only [w_fin, w_to, w_ok, w_ifO, w_up, w_exO, w_bind, w_seq]
  rw [if_neg (by simp [hl])]
  refine w_for (I := fun k _ => ∀ r ∈ odds.take k, ∀ x ∈ r, x ≤ 10 ^ 40) (fun k r s hk hi => ?_) (fun r hr => nomatch hr) fun s hi => ?_
  · have hm := List.mem_of_getElem? hk
    show (m_check_odds_l1 sights r).W _ _ _ _ _
    unfold m_check_odds_l1
    simp only [w_ifO, w_ok, w_up, w_exO, w_seq, w_to, w_bind]
    rw [at_k (k := 0) h0]
    simp only [w_ok]
    rw [if_neg (by simp [(hr r hm).1])]
    refine w_for (I := fun j _ => ∀ x ∈ r.take j, x ≤ 10 ^ 40) (fun j x s hj hi2 => ?_) (fun x hx => nomatch hx) fun s hi2 => ?_
    · show (m_check_odds_l2 x).W _ _ _ _ _
      unfold m_check_odds_l2
      have hx := (hr r hm).2 x (List.mem_of_getElem? hj)
      simp only [w_ifO, w_ok, w_exO, w_nx]
      split
      · rename_i h3
        refine ⟨trivial, fun f => ?_⟩
        have := f r hm x (List.mem_of_getElem? hj)
        rw [p40] at this
        have h3 : x < 0 ∨ 10000000000000000000000000000000000000000 < x := by simpa using h3
        omega
      · rename_i h3
        have h3 : ¬ (x < 0 ∨ 10000000000000000000000000000000000000000 < x) := by simpa using h3
        intro y hy
        rw [List.take_add_one, hj] at hy
        rcases List.mem_append.mp hy with hy | hy
        · exact hi2 y hy
        · rw [List.mem_singleton.mp hy, p40]
          omega
    · rw [List.take_length] at hi2
      try dsimp only [up0]
      rw [w_nx]
      intro y hy
      rw [List.take_add_one, hk] at hy
      rcases List.mem_append.mp hy with hy | hy
      · exact hi y hy
      · rw [List.mem_singleton.mp hy]
        exact hi2
  · rw [List.take_length] at hi
    exact hi
/-- rows and weights that a book takes as they are -/
structure Takes (sights odds : List (List Int)) : Prop where
  fit : Fits sights
  len : odds.length = sights.length
  row : ∀ (p : Nat) (r w : List Int), sights[p]? = some r → odds[p]? = some w → w.length = r.length ∧ (∀ x ∈ w, 0 ≤ x ∧ x ≤ 10 ^ 40) ∧ ∀ c ∈ bkCells r, gcdC w c ≠ 0
theorem cells_take {r w : List Int} (h1 : 1 ≤ r.length) (hl : w.length = r.length) (hw : ∀ x ∈ w, 0 ≤ x ∧ x.natAbs < 2 ^ 1999) : CellsOk (bkCells r) w :=
  ⟨fun c hc => (cells_ok h1 hc).1, fun c hc v hv => by rw [hl]; exact (cells_ok h1 hc).2 v hv, fun x hx => (hw x hx).1, fun x hx => (hw x hx).2⟩
theorem small40 {x : Int} (h0 : 0 ≤ x) (h : x ≤ 10 ^ 40) : x.natAbs < 2 ^ 1999 := Nat.lt_trans (wt_small h0 h) (Nat.pow_lt_pow_right (by decide) (by decide))
theorem mapL_at {c : List Nat} {ws : List Int} (hc : ∀ v ∈ c, v < ws.length) (hl : c.length ≤ 100000) : (mapL (cI c) fun w => at_ ws w) = .ok ((cI c).map fun w => ws.getD w.toNat 0) :=
  mapL_k (g := fun w : Int => ws.getD w.toNat 0) (fun w hw => by
    obtain ⟨v, hv, rfl⟩ := List.mem_map.mp hw
    rw [Int.toNat_natCast]
    exact ws_at (hc v hv)) (by rw [cI_len]; exact hl)
theorem init_ok {sights odds : List (List Int)} (h : Takes sights odds) : ∃ b : Book, m_Book_init sights odds = .ok b ∧ b.f_people = (sights.length : Int) ∧ (∀ r, sights[0]? = some r → b.f_worlds = (r.length : Int)) ∧ b.f__labels = sights.map (fun r => cI (numbN r)) ∧ b.f__weights = (List.range sights.length).map fun p => bkWeights (sights.getD p []) (odds.getD p []) := by
  obtain ⟨n, hn, hp, hf⟩ := h.fit
  have h0 : sights[0]? = some sights[0] := List.getElem?_eq_getElem (by omega)
  have hrow : ∀ r ∈ odds, r.length = sights[0].length ∧ ∀ x ∈ r, 0 ≤ x := fun w hw => by
    obtain ⟨p, hp, rfl⟩ := List.getElem_of_mem hw
    have hps : p < sights.length := by rw [← h.len]; exact hp
    have hs : sights[p]? = some sights[p] := List.getElem?_eq_getElem hps
    have := h.row p _ _ hs (List.getElem?_eq_getElem hp)
    refine ⟨?_, fun x hx => (this.2.1 x hx).1⟩
    rw [this.1, (hf _ (List.mem_of_getElem? hs)).1, (hf _ (List.mem_of_getElem? h0)).1]
  have h40 : ∀ r ∈ odds, ∀ x ∈ r, x ≤ 10 ^ 40 := fun w hw x hx => by
    obtain ⟨p, hp, rfl⟩ := List.getElem_of_mem hw
    have hps : p < sights.length := by rw [← h.len]; exact hp
    have hs : sights[p]? = some sights[p] := List.getElem?_eq_getElem hps
    exact ((h.row p _ _ hs (List.getElem?_eq_getElem hp)).2.1 x hx).2
  rw [e_Book_init]
  refine Res.W.ex_ok ?_
  unfold m_Book_init_b
  rw [check_sights_ok.1 h.fit, (check_odds_ok h0 h.len hrow).1 h40]
  simp only [w_made, w_to, w_ok, w_bind, w_exG, w_seq]
  rw [at_k (k := 0) h0, w_ok]
  have e1 : mapL sights (fun row' => (m_numbered row').calm) = .ok (sights.map fun r => cI (numbN r)) := mapL_k (g := fun r => cI (numbN r)) (fun r hr => by
    have := (hf r hr).1
    rw [numbered_ok (by omega)]
    rfl) (by omega)
  have e2 : mapL (sights.map fun r => cI (numbN r)) (fun labels' => (m_gathered labels').calm) = .ok (sights.map fun r => cII (bkCells r)) := by
    have : (sights.map fun r => cII (bkCells r)) = (sights.map fun r => cI (numbN r)).map fun l : List Int => cII (gathN (l.map fun x => x.toNat)) := by
      rw [List.map_map]
      refine List.map_congr_left fun r hr => ?_
      show cII (gathN (numbN r)) = cII (gathN ((cI (numbN r)).map fun x => x.toNat))
      unfold cI
      rw [List.map_map]
      congr 2
      exact (List.map_id' _).symm
    rw [this]
    refine mapL_k (l := sights.map fun r => cI (numbN r)) (g := fun l : List Int => cII (gathN (l.map fun x => x.toNat))) (fun l hl => ?_) (by rw [List.length_map]; omega)
    obtain ⟨r, hr, rfl⟩ := List.mem_map.mp hl
    have hrl := (hf r hr).1
    have hb : ((cI (numbN r)).map fun x => x.toNat) = numbN r := by
      unfold cI
      rw [List.map_map]
      exact List.map_id' _
    have := mx_numb (row := r) (by omega)
    rw [gathered_ok (numb_ne (by omega)) (by rw [numb_len]; omega) (by omega), hb]
    rfl
  have e3 : range1 (sights.length : Int) = .ok ((List.range sights.length).map fun k : Nat => (k : Int)) := range1_k (by omega)
  rw [e1, w_ok, e2, w_ok, e3, w_ok]
  refine w_for (I := fun k s => s.1 = (List.range k).map (fun p => bkWeights (sights.getD p []) (odds.getD p [])) ∧ s.2.length = k) (fun k x s hk hi => ?_) ⟨rfl, rfl⟩ fun s hi => ?_
  · obtain ⟨ws, ts⟩ := s
    obtain ⟨rfl, hkl⟩ := range_get hk
    obtain ⟨rfl, ht⟩ := hi
    have hs : sights[k]? = some sights[k] := List.getElem?_eq_getElem hkl
    have ho : odds[k]? = some (odds[k]'(by rw [h.len]; exact hkl)) := List.getElem?_eq_getElem _
    have hd1 : sights.getD k [] = sights[k] := by rw [List.getD_eq_getElem?_getD, hs]; rfl
    have hd2 : odds.getD k [] = odds[k]'(by rw [h.len]; exact hkl) := by rw [List.getD_eq_getElem?_getD, ho]; rfl
    have hc : (sights.map fun r => cII (bkCells r))[k]? = some (cII (bkCells sights[k])) := by rw [List.getElem?_map, hs]; rfl
    have hrw := h.row k _ _ hs ho
    have hlen := (hf _ (List.mem_of_getElem? hs)).1
    have hco := cells_take (r := sights[k]) (by omega) hrw.1 (fun x hx => ⟨(hrw.2.1 x hx).1, small40 (hrw.2.1 x hx).1 (hrw.2.1 x hx).2⟩)
    show (m_Book_init_l1 odds _ (k : Int) _ ts).W _ _ _ _ _
    unfold m_Book_init_l1
    simp only [w_to, w_exG, w_bind, w_calm]
    rw [at_k hc, at_k ho]
    simp only [w_ok]
    rw [lowest_ok hco, find_none hrw.2.2]
    simp only [w_ok]
    rw [app_k (by rw [List.length_map, List.length_range]; omega)]
    simp only [w_ok]
    have e4 : mapL (cII (bkCells sights[k])) (fun cell' => (mapL cell' fun world' => at_ (lowN (bkCells sights[k]) (odds[k]'(by rw [h.len]; exact hkl))) world').bind fun v => .ok v.sum) = .ok ((cII (bkCells sights[k])).map fun cell : List Int => ((cell.map fun w => (lowN (bkCells sights[k]) (odds[k]'(by rw [h.len]; exact hkl))).getD w.toNat 0).sum)) := by
      refine mapL_k (g := fun cell : List Int => ((cell.map fun w => (lowN (bkCells sights[k]) (odds[k]'(by rw [h.len]; exact hkl))).getD w.toNat 0).sum)) (fun c hc => ?_) ?_
      · obtain ⟨c, hcm, rfl⟩ := List.mem_map.mp hc
        rw [mapL_at (ws := lowN (bkCells sights[k]) (odds[k]'(by rw [h.len]; exact hkl))) (fun v hv => by rw [lowN, lowN_len]; exact hco.lt c hcm v hv) ?_]
        · rfl
        · obtain ⟨v, hv, rfl⟩ := cells_of_row (row := sights[k]) (by omega) hcm
          have := List.length_filter_le (fun u => decide (sights[k].getD u 0 = sights[k].getD v 0)) (List.range sights[k].length)
          rw [List.length_range] at this
          unfold insideN
          omega
      · unfold cII bkCells gathN
        rw [List.length_map, List.length_map, List.length_range]
        have := mx_numb (row := sights[k]) (by omega)
        omega
    rw [e4]
    simp only [w_ok]
    rw [app_k (by dsimp only at ht; omega)]
    simp only [w_ok, w_nx]
    refine ⟨?_, by rw [List.length_append, List.length_singleton]; dsimp only at ht; omega⟩
    rw [List.range_succ, List.map_append]
    simp only [List.map_cons, List.map_nil, hd1, hd2]
    rfl
  · obtain ⟨ws, ts⟩ := s
    rw [range_len] at hi
    refine ⟨rfl, fun r hr => ?_, rfl, hi.1⟩
    rw [h0] at hr
    cases hr
    rfl
end FB
set_option linter.all false
set_option maxRecDepth 100000
set_option maxHeartbeats 4000000
set_option exponentiation.threshold 20000
/-! Numbers, plain. -/
namespace FB
open FS PySem
abbrev Num := Int × Int
def mk (n d : Int) : Num := (n / (Nat.gcd n.natAbs d.natAbs : Nat), d / (Nat.gcd n.natAbs d.natAbs : Nat))
/-- a number of at most k bits above and below -/
structure Good (k : Nat) (x : Num) : Prop where
  pos : 0 < x.2
  up : x.1.natAbs < 2 ^ k
  dn : x.2 < 2 ^ k
  co : Nat.gcd x.1.natAbs x.2.natAbs = 1
theorem gcd_pos' {n d : Int} (h : 0 < d) : 0 < Nat.gcd n.natAbs d.natAbs := Nat.gcd_pos_of_pos_right _ (by omega)
theorem natAbs_div {n : Int} {g : Nat} (hg : 0 < g) (hd : g ∣ n.natAbs) : (n / (g : Int)).natAbs = n.natAbs / g := by
  have : (g : Int) ∣ n := Int.ofNat_dvd_left.mpr hd
  rw [Int.natAbs_ediv_of_dvd this, Int.natAbs_natCast]
theorem mk_good {n d : Int} {k : Nat} (h : 0 < d) (hn : n.natAbs < 2 ^ k) (hd : d < 2 ^ k) : Good k (mk n d) := by
  have g0 := gcd_pos' (n := n) h
  have e1 : (mk n d).1.natAbs = n.natAbs / Nat.gcd n.natAbs d.natAbs := natAbs_div g0 (Nat.gcd_dvd_left _ _)
  have e2 : (mk n d).2.natAbs = d.natAbs / Nat.gcd n.natAbs d.natAbs := natAbs_div g0 (Nat.gcd_dvd_right _ _)
  have hdd : ((Nat.gcd n.natAbs d.natAbs : Nat) : Int) ∣ d := Int.ofNat_dvd_left.mpr (Nat.gcd_dvd_right _ _)
  refine ⟨?_, ?_, ?_, ?_⟩
  · exact Int.ediv_pos_of_pos_of_dvd h (by omega) hdd
  · rw [e1]
    exact Nat.lt_of_le_of_lt (Nat.div_le_self _ _) hn
  · refine Int.lt_of_le_of_lt ?_ hd
    exact Int.ediv_le_self _ (by omega)
  · rw [e1, e2, Nat.gcd_div (Nat.gcd_dvd_left _ _) (Nat.gcd_dvd_right _ _)]
    exact Nat.div_self g0
theorem wide_lt {x y : Int} {a b : Nat} (hx : x.natAbs < 2 ^ a) (hy : y.natAbs < 2 ^ b) : (x * y).natAbs < 2 ^ (a + b) := by
  rw [Int.natAbs_mul, Nat.pow_add]
  exact Nat.mul_lt_mul'' hx hy
/-! ### numbers, plain -/
theorem mk_eq {n d : Int} (h : d ≠ 0) : (mk n d).1 * d = n * (mk n d).2 := by
  have hn : ((Nat.gcd n.natAbs d.natAbs : Nat) : Int) ∣ n := Int.ofNat_dvd_left.mpr (Nat.gcd_dvd_left _ _)
  have hd : ((Nat.gcd n.natAbs d.natAbs : Nat) : Int) ∣ d := Int.ofNat_dvd_left.mpr (Nat.gcd_dvd_right _ _)
  have g0 : 0 < Nat.gcd n.natAbs d.natAbs := Nat.gcd_pos_of_pos_right _ (by omega)
  show n / _ * d = n * (d / _)
  generalize Nat.gcd n.natAbs d.natAbs = g at hn hd g0
  obtain ⟨a, rfl⟩ := hn
  obtain ⟨b, rfl⟩ := hd
  rw [Int.mul_ediv_cancel_left _ (by omega), Int.mul_ediv_cancel_left _ (by omega), ← Int.mul_assoc, Int.mul_comm a]
/-- a pair that _law_is takes for top over bottom -/
structure IsN (b : Nat) (a : Num) (t d : Int) : Prop where
  pos : 0 < a.2
  co : Nat.gcd a.1.natAbs a.2.natAbs = 1
  eq : a.1 * d = t * a.2
  up : a.1.natAbs < 2 ^ b
  dn : a.2.natAbs < 2 ^ b
theorem natAbs_lt {d : Int} {k : Nat} (h : 0 < d) (hd : d.natAbs < 2 ^ k) : d < 2 ^ k := by
  have h2 : ((d.natAbs : Nat) : Int) < ((2 ^ k : Nat) : Int) := Int.ofNat_lt.mpr hd
  rw [Int.natCast_pow, Int.natAbs_of_nonneg (by omega)] at h2
  exact h2
theorem lt_natAbs {d : Int} {k : Nat} (h : 0 ≤ d) (hd : d < 2 ^ k) : d.natAbs < 2 ^ k := by
  have h2 : ((d.natAbs : Nat) : Int) < ((2 ^ k : Nat) : Int) := by
    rw [Int.natCast_pow, Int.natAbs_of_nonneg h]
    exact hd
  exact Int.ofNat_lt.mp h2
theorem mk_is {b : Nat} {n d t e : Int} (h : 0 < d) (hn : n.natAbs < 2 ^ b) (hd : d.natAbs < 2 ^ b) (he : n * e = t * d) : IsN b (mk n d) t e := by
  have g := mk_good (n := n) h hn (natAbs_lt h hd)
  refine ⟨g.pos, g.co, ?_, g.up, lt_natAbs (by have := g.pos; omega) g.dn⟩
  have e1 := mk_eq (n := n) (d := d) (by omega)
  refine Int.eq_of_mul_eq_mul_right (a := d) (by omega) ?_
  rw [Int.mul_right_comm, e1, Int.mul_right_comm, he, Int.mul_right_comm]
/-- a number's pair, of at most b bits -/
def NumOk (b : Nat) (x : Num) : Prop := 0 < x.2 ∧ x.1.natAbs < 2 ^ b ∧ x.2.natAbs < 2 ^ b
def plusS (a x : Num) : Num := (a.1 * (x.2 / ((Nat.gcd a.2.natAbs x.2.natAbs : Nat) : Int)) + x.1 * (a.2 / ((Nat.gcd a.2.natAbs x.2.natAbs : Nat) : Int)), a.2 / ((Nat.gcd a.2.natAbs x.2.natAbs : Nat) : Int) * x.2)
def sumS (a x : Num) : Num := (a.1 * x.2 + x.1 * a.2, a.2 * x.2)
def prodS (a x : Num) : Num := (a.1 * x.1, a.2 * x.2)
structure Ps (e : Nat) (a s : Num) : Prop where
  pa : 0 < a.2
  ps : 0 < s.2
  le : a.2 ≤ s.2
  eq : a.1 * s.2 = s.1 * a.2
  up : s.1.natAbs < 2 ^ e
  dn : s.2.natAbs < 2 ^ e
theorem Ps.start : Ps 1 (0, 1) (0, 1) := ⟨by decide, by decide, by decide, by decide, by decide, by decide⟩
theorem Ps.an {e : Nat} {a s : Num} (h : Ps e a s) : a.1.natAbs < 2 ^ e := by
  refine Nat.lt_of_le_of_lt ?_ h.up
  have e1 : a.1.natAbs * s.2.natAbs = s.1.natAbs * a.2.natAbs := by rw [← Int.natAbs_mul, ← Int.natAbs_mul, h.eq]
  have h1 := h.pa
  have h2 := h.le
  have h3 : s.1.natAbs * a.2.natAbs ≤ s.1.natAbs * s.2.natAbs := Nat.mul_le_mul_left _ (by omega)
  exact Nat.le_of_mul_le_mul_right (c := s.2.natAbs) (by omega) (by omega)
theorem Ps.ad {e : Nat} {a s : Num} (h : Ps e a s) : a.2.natAbs < 2 ^ e := by
  have h1 := h.pa
  have h2 := h.le
  have h3 := h.dn
  omega
theorem bits_add {x y : Int} {e : Nat} (hx : x.natAbs < 2 ^ e) (hy : y.natAbs < 2 ^ e) : (x + y).natAbs < 2 ^ (e + 1) := by
  rw [Nat.pow_succ]
  omega
theorem Ps.step {e b : Nat} {a s x : Num} (h : Ps e a s) (hx : NumOk b x) : Ps (e + b + 1) (plusS a x) (sumS s x) := by
  obtain ⟨x1, x2, x3⟩ := hx
  have h1 := h.pa
  have h2 := h.ps
  have hg1 : ((Nat.gcd a.2.natAbs x.2.natAbs : Nat) : Int) ∣ a.2 := Int.ofNat_dvd_left.mpr (Nat.gcd_dvd_left _ _)
  have hg2 : ((Nat.gcd a.2.natAbs x.2.natAbs : Nat) : Int) ∣ x.2 := Int.ofNat_dvd_left.mpr (Nat.gcd_dvd_right _ _)
  have g0 : 0 < Nat.gcd a.2.natAbs x.2.natAbs := Nat.gcd_pos_of_pos_right _ (by omega)
  have ha : 0 < a.2 / ((Nat.gcd a.2.natAbs x.2.natAbs : Nat) : Int) := Int.ediv_pos_of_pos_of_dvd h1 (by omega) hg1
  have hle : a.2 / ((Nat.gcd a.2.natAbs x.2.natAbs : Nat) : Int) ≤ a.2 := Int.ediv_le_self _ (by omega)
  refine ⟨?_, Int.mul_pos h2 x1, ?_, ?_, ?_, ?_⟩
  · exact Int.mul_pos ha x1
  · exact Int.mul_le_mul_of_nonneg_right (Int.le_trans hle h.le) (by omega)
  · show (a.1 * (x.2 / _) + x.1 * (a.2 / _)) * (s.2 * x.2) = (s.1 * x.2 + x.1 * s.2) * (a.2 / _ * x.2)
    have he := h.eq
    generalize ((Nat.gcd a.2.natAbs x.2.natAbs : Nat) : Int) = g at hg1 hg2 ha hle
    have hgz : g ≠ 0 := by
      intro z
      subst z
      rw [Int.ediv_zero] at ha
      omega
    obtain ⟨a', ea⟩ := hg1
    obtain ⟨x', ex⟩ := hg2
    have q1 : a.2 / g = a' := by rw [ea, Int.mul_ediv_cancel_left _ hgz]
    have q2 : x.2 / g = x' := by rw [ex, Int.mul_ediv_cancel_left _ hgz]
    rw [q1, q2, ex]
    have he2 : a.1 * s.2 = s.1 * a' * g := by rw [he, ea, Int.mul_assoc, Int.mul_comm a' g]
    have L : (a.1 * x' + x.1 * a') * (s.2 * (g * x')) = (a.1 * s.2) * (x' * (g * x')) + x.1 * a' * (s.2 * (g * x')) := by
      rw [Int.add_mul]
      congr 1
      rw [Int.mul_assoc, Int.mul_assoc]
      congr 1
      rw [Int.mul_left_comm]
    have R : (s.1 * (g * x') + x.1 * s.2) * (a' * (g * x')) = (s.1 * a' * g) * (x' * (g * x')) + x.1 * a' * (s.2 * (g * x')) := by
      rw [Int.add_mul]
      congr 1
      · simp only [Int.mul_assoc, Int.mul_comm, Int.mul_left_comm]
      · simp only [Int.mul_assoc, Int.mul_comm, Int.mul_left_comm]
    rw [L, R, he2]
  · refine bits_add (e := e + b) (wide_lt h.up x3) ?_
    rw [Nat.add_comm]
    exact wide_lt x2 h.dn
  · have := wide_lt h.dn x3
    refine Nat.lt_trans this ?_
    exact Nat.pow_lt_pow_right (by decide) (by omega)
theorem ps_fold {b : Nat} : ∀ (l : List Num) (e : Nat) (a s : Num), Ps e a s → (∀ x ∈ l, NumOk b x) → Ps (e + l.length * (b + 1)) (l.foldl plusS a) (l.foldl sumS s)
  | [], e, a, s, h, _ => by simpa using h
  | x :: l, e, a, s, h, hl => by
    have := ps_fold l _ _ _ (h.step (hl x List.mem_cons_self)) fun y hy => hl y (List.mem_cons_of_mem _ hy)
    have e2 : e + b + 1 + l.length * (b + 1) = e + (x :: l).length * (b + 1) := by
      rw [List.length_cons, Nat.succ_mul]
      omega
    rw [e2] at this
    exact this
structure Pt (e : Nat) (a : Num) : Prop where
  pa : 0 < a.2
  up : a.1.natAbs < 2 ^ e
  dn : a.2.natAbs < 2 ^ e
theorem Pt.start : Pt 1 (1, 1) := ⟨by decide, by decide, by decide⟩
theorem Pt.step {e b : Nat} {a x : Num} (h : Pt e a) (hx : NumOk b x) : Pt (e + b) (prodS a x) := ⟨Int.mul_pos h.pa hx.1, wide_lt h.up hx.2.1, wide_lt h.dn hx.2.2⟩
theorem pt_fold {b : Nat} : ∀ (l : List Num) (e : Nat) (a : Num), Pt e a → (∀ x ∈ l, NumOk b x) → Pt (e + l.length * b) (l.foldl prodS a)
  | [], e, a, h, _ => by simpa using h
  | x :: l, e, a, h, hl => by
    have := pt_fold l _ _ (h.step (hl x List.mem_cons_self)) fun y hy => hl y (List.mem_cons_of_mem _ hy)
    have e2 : e + b + l.length * b = e + (x :: l).length * b := by
      rw [List.length_cons, Nat.succ_mul]
      omega
    rw [e2] at this
    exact this
def plusN (l : List Num) : Num := mk (l.foldl plusS (0, 1)).1 (l.foldl plusS (0, 1)).2
def timesN (l : List Num) : Num := mk (l.foldl prodS (1, 1)).1 (l.foldl prodS (1, 1)).2
theorem plus_is {b : Nat} {l : List Num} (hl : ∀ x ∈ l, NumOk b x) : IsN (1 + l.length * (b + 1)) (plusN l) (l.foldl sumS (0, 1)).1 (l.foldl sumS (0, 1)).2 := by
  have h := ps_fold l 1 _ _ Ps.start hl
  exact mk_is h.pa h.an h.ad h.eq
theorem times_is {b : Nat} {l : List Num} (hl : ∀ x ∈ l, NumOk b x) : IsN (1 + l.length * b) (timesN l) (l.foldl prodS (1, 1)).1 (l.foldl prodS (1, 1)).2 := by
  have h := pt_fold l 1 _ Pt.start hl
  exact mk_is h.pa h.up h.dn rfl
/-! ### whole -/
def lcmF (xs : List Num) : Nat := xs.foldl (fun f x => Nat.lcm f x.2.natAbs) 1
def wholeC (xs : List Num) : List Int := xs.map fun x => x.1 * ((lcmF xs : Int) / x.2)
theorem lcm_bd : ∀ (xs : List Num) (f a : Nat), (∀ x ∈ xs, NumOk 400 x) → 0 < f → f ≤ 2 ^ a → 0 < xs.foldl (fun f x => Nat.lcm f x.2.natAbs) f ∧ xs.foldl (fun f x => Nat.lcm f x.2.natAbs) f ≤ 2 ^ (a + 400 * xs.length)
  | [], f, a, _, h0, h1 => ⟨h0, by simpa using h1⟩
  | x :: xs, f, a, hg, h0, h1 => by
    obtain ⟨p1, _, p2⟩ := hg x List.mem_cons_self
    have hl : Nat.lcm f x.2.natAbs ≤ 2 ^ (a + 400) := by
      have h2 : Nat.lcm f x.2.natAbs ≤ f * x.2.natAbs := by
        unfold Nat.lcm
        exact Nat.div_le_self _ _
      rw [Nat.pow_add]
      exact Nat.le_trans h2 (Nat.mul_le_mul h1 (Nat.le_of_lt p2))
    have r := lcm_bd xs (Nat.lcm f x.2.natAbs) (a + 400) (fun y hy => hg y (List.mem_cons_of_mem _ hy)) (Nat.lcm_pos h0 (by omega)) hl
    rw [List.foldl_cons, List.length_cons]
    have e : a + 400 * (xs.length + 1) = a + 400 + 400 * xs.length := by omega
    rw [e]
    exact r
theorem lcmF_bd {xs : List Num} (hg : ∀ x ∈ xs, NumOk 400 x) : 0 < lcmF xs ∧ lcmF xs ≤ 2 ^ (400 * xs.length) := by
  have := lcm_bd xs 1 0 hg (by decide) (by decide)
  rw [Nat.zero_add] at this
  exact this
theorem lcmF_take {xs : List Num} {i : Nat} {x : Num} (h : xs[i]? = some x) : lcmF (xs.take (i + 1)) = Nat.lcm (lcmF (xs.take i)) x.2.natAbs := by
  unfold lcmF
  rw [List.take_add_one, h, List.foldl_append]
  rfl
theorem lcmF_lt {xs : List Num} (hg : ∀ x ∈ xs, NumOk 400 x) (hl : xs.length ≤ 20) : lcmF xs < 2 ^ 8001 :=
  Nat.lt_of_le_of_lt (lcmF_bd hg).2 (Nat.lt_of_le_of_lt (Nat.pow_le_pow_right (by decide) (by omega)) (Nat.pow_lt_pow_right (by decide) (by decide) : 2 ^ (400 * 20) < 2 ^ 8001))
/-! ### shares, by their whole numbers -/
theorem sum_fold (F : Int) : ∀ (l : List Num) (t b C : Int), (∀ x ∈ l, x.2 ∣ F) → t * F = C * b → (l.foldl sumS (t, b)).1 * F = (C + (l.map fun x => x.1 * (F / x.2)).sum) * (l.foldl sumS (t, b)).2
  | [], t, b, C, _, h => by simpa using h
  | x :: l, t, b, C, hd, h => by
    obtain ⟨k, hk⟩ := hd x List.mem_cons_self
    have hstep : (t * x.2 + x.1 * b) * F = (C + x.1 * (F / x.2)) * (b * x.2) := by
      by_cases hx : x.2 = 0
      · rw [hx, Int.zero_mul] at hk
        rw [hk, hx, Int.mul_zero, Int.mul_zero, Int.mul_zero]
      · have e : F / x.2 = k := by rw [hk, Int.mul_ediv_cancel_left _ hx]
        rw [e, Int.add_mul, Int.add_mul, Int.mul_right_comm t, h, hk]
        congr 1
        · rw [Int.mul_assoc]
        · rw [Int.mul_assoc, Int.mul_assoc]
          congr 1
          rw [← Int.mul_assoc, Int.mul_comm]
    have := sum_fold F l (t * x.2 + x.1 * b) (b * x.2) (C + x.1 * (F / x.2)) (fun y hy => hd y (List.mem_cons_of_mem _ hy)) hstep
    rw [List.map_cons, List.sum_cons, ← Int.add_assoc]
    exact this
theorem dvd_lcm : ∀ (l : List Num) (f : Nat), (f ∣ l.foldl (fun f x => Nat.lcm f x.2.natAbs) f) ∧ ∀ x ∈ l, x.2.natAbs ∣ l.foldl (fun f x => Nat.lcm f x.2.natAbs) f
  | [], f => ⟨Nat.dvd_refl _, fun x hx => by cases hx⟩
  | x :: l, f => by
    obtain ⟨h1, h2⟩ := dvd_lcm l (Nat.lcm f x.2.natAbs)
    refine ⟨Nat.dvd_trans (Nat.dvd_lcm_left _ _) h1, fun y hy => ?_⟩
    rcases List.mem_cons.mp hy with rfl | hy
    · exact Nat.dvd_trans (Nat.dvd_lcm_right _ _) h1
    · exact h2 y hy
theorem plus_one {xs : List Num} (hg : ∀ x ∈ xs, NumOk 400 x) : plusN xs = (1, 1) ↔ (wholeC xs).sum = (lcmF xs : Int) := by
  have hi := plus_is hg
  have hps := (ps_fold xs 1 _ _ Ps.start hg).ps
  have hF := (lcmF_bd hg).1
  have hs := sum_fold (lcmF xs : Int) xs 0 1 0 (fun x hx => Int.ofNat_dvd_right.mpr ((dvd_lcm xs 1).2 x hx)) (by simp)
  rw [Int.zero_add] at hs
  have hs : (xs.foldl sumS (0, 1)).1 * (lcmF xs : Int) = (wholeC xs).sum * (xs.foldl sumS (0, 1)).2 := hs
  generalize (xs.foldl sumS (0, 1)).1 = T at hs hi
  generalize (xs.foldl sumS (0, 1)).2 = B at hs hi hps
  have hTB : T = B ↔ (wholeC xs).sum = (lcmF xs : Int) := by
    constructor
    · intro e
      rw [e, Int.mul_comm] at hs
      exact (Int.eq_of_mul_eq_mul_right (by omega) hs).symm
    · intro e
      rw [e, Int.mul_comm (lcmF xs : Int)] at hs
      exact Int.eq_of_mul_eq_mul_right (by omega) hs
  rw [← hTB]
  constructor
  · intro e
    have := hi.eq
    rw [e] at this
    simpa using this.symm
  · intro e
    have h := hi.eq
    rw [e, Int.mul_comm B] at h
    have h12 := Int.eq_of_mul_eq_mul_right (by omega) h
    have hc := hi.co
    have hp := hi.pos
    rw [h12, Nat.gcd_self] at hc
    have h2 : (plusN xs).2 = 1 := by omega
    exact Prod.ext (by rw [h12, h2]) h2
end FB
set_option linter.all false
set_option maxRecDepth 100000
set_option maxHeartbeats 4000000
set_option exponentiation.threshold 20000
namespace FB
open FS PySem
open Py (dy un)
theorem gI {a b : Int} : gcd_ a b = ((Nat.gcd a.natAbs b.natAbs : Nat) : Int) := rfl
theorem gcd_pI {a b : Int} (h : 0 < b) : 0 < ((Nat.gcd a.natAbs b.natAbs : Nat) : Int) := by
  have := gcd_pos' (n := a) h
  omega
theorem gcd_bI {a b : Int} (h : 0 < b) {m : Nat} (hb : b.natAbs < m) : (((Nat.gcd a.natAbs b.natAbs : Nat) : Int)).natAbs < m := by
  rw [Int.natAbs_natCast]
  exact Nat.lt_of_le_of_lt (Nat.gcd_le_right _ (by omega)) hb
theorem pow_up {x a b : Nat} (h : x < 2 ^ a) (hab : a ≤ b) : x < 2 ^ b := Nat.lt_of_lt_of_le h (Nat.pow_le_pow_right (by decide) hab)
theorem lratio_ok {n d : Int} (h : 0 < d) (hd : d.natAbs < 2 ^ 1999) : m_law_ratio n d = .ok (mk n d) := by
  rw [e_law_ratio]
  refine Res.W.eq ?_
  unfold m_law_ratio_b
  simp only [w_fin, w_to, w_calm, w_bind]
  rw [lgcd (a := iabs n) (by unfold iabs; omega) (by omega) hd, w_ok]
  have e : ((Nat.gcd (iabs n).natAbs d.natAbs : Nat) : Int) = ((Nat.gcd n.natAbs d.natAbs : Nat) : Int) := by
    unfold iabs
    rw [Int.natAbs_natCast]
  rw [e, fdiv_k (gcd_pI h) (gcd_bI h (pow_up hd (by decide))), fdiv_k (gcd_pI h) (gcd_bI h (pow_up hd (by decide)))]
  simp only [w_ok, w_rt]
  rfl
theorem ratio_ok {n d : Int} (h : 0 < d) (hd : d.natAbs < 2 ^ 9000) : m_ratio n d = .ok (mk n d) := by
  rw [e_ratio]
  refine Res.W.eq ?_
  unfold m_ratio_b
  simp only [w_fin, w_to, w_ifO, w_ok, w_up, w_exO, w_seq, w_bind, w_nx]
  rw [if_neg (by rw [decide_eq_true_eq]; omega), if_neg (by rw [decide_eq_true_eq]; omega)]
  try simp only [w_to, w_ok, w_bind]
  rw [gI, fdiv_k (gcd_pI h) (gcd_bI h hd), fdiv_k (gcd_pI h) (gcd_bI h hd)]
  simp only [w_ok, w_rt]
  rfl
theorem div_b {a : Int} {g : Nat} {m : Nat} (hg : 0 < g) (hd : (g : Int) ∣ a) (h : a.natAbs < m) : (a / (g : Int)).natAbs < m := by
  rw [natAbs_div hg (Int.ofNat_dvd_left.mp hd)]
  exact Nat.lt_of_le_of_lt (Nat.div_le_self _ _) h
theorem plus_ok {xs : List Num} (hx : ∀ x ∈ xs, NumOk 400 x) (hl : xs.length ≤ 20) : m_plus ⟨xs⟩ = .ok (plusN xs) := by
  have inv : ∀ i, i ≤ xs.length → Ps (1 + i * 401) ((xs.take i).foldl plusS (0, 1)) ((xs.take i).foldl sumS (0, 1)) := fun i hi => by
    have := ps_fold (b := 400) (xs.take i) 1 _ _ Ps.start fun x h => hx x (List.mem_of_mem_take h)
    rwa [List.length_take, Nat.min_eq_left hi] at this
  have hbig : ∀ i, i ≤ xs.length → 1 + i * 401 ≤ 8900 := fun i hi => by omega
  rw [e_plus]
  refine Res.W.eq ?_
  unfold m_plus_b
  simp only [w_fin, w_to, w_ok, w_seq]
  refine w_for (I := fun i s => s = (xs.take i).foldl plusS (0, 1)) (fun k x s hk hs => ?_) rfl fun s hs => ?_
  · subst hs
    have hkl := (List.getElem?_eq_some_iff.mp hk).1
    have hp := inv k (by omega)
    have hb := hbig k (by omega)
    obtain ⟨x1, x2, x3⟩ := hx x (List.mem_of_getElem? hk)
    rw [foldl_take (f := plusS) hk]
    generalize (xs.take k).foldl plusS (0, 1) = a at hp
    generalize (xs.take k).foldl sumS (0, 1) = s at hp
    show (m_plus_l1 x.1 x.2 a.1 a.2).W _ _ _ _ _
    unfold m_plus_l1
    simp only [w_to, w_ok, w_bind]
    have g1 := gcd_pI (a := a.2) x1
    have gb := gcd_bI (a := a.2) x1 x3
    have hg1 : ((Nat.gcd a.2.natAbs x.2.natAbs : Nat) : Int) ∣ a.2 := Int.ofNat_dvd_left.mpr (Nat.gcd_dvd_left _ _)
    have hg2 : ((Nat.gcd a.2.natAbs x.2.natAbs : Nat) : Int) ∣ x.2 := Int.ofNat_dvd_left.mpr (Nat.gcd_dvd_right _ _)
    have d1 := div_b (by omega) hg1 hp.ad
    have d2 := div_b (by omega) hg2 x3
    rw [gI, fdiv_k g1 (pow_up gb (by decide)), fdiv_k g1 (pow_up gb (by decide))]
    simp only [w_ok]
    rw [mul_k 8900 400 (pow_up hp.an hb) d2, mul_k 400 8900 x2 (pow_up d1 hb)]
    simp only [w_ok]
    rw [mul_k 8900 400 (pow_up d1 hb) x3]
    simp only [w_ok, w_nx]
    rfl
  · have hp := inv xs.length (Nat.le_refl _)
    rw [List.take_length] at hs hp
    subst hs
    show (m_ratio _ _).calm.W _ _
    rw [ratio_ok hp.pa (pow_up hp.ad (by have := hbig xs.length (Nat.le_refl _); omega))]
    exact (w_calm.trans w_ok).mpr rfl
theorem whole_ok {xs : List Num} (hx : ∀ x ∈ xs, NumOk 400 x) (hl : xs.length ≤ 20) : m_whole xs = .ok (wholeC xs, (lcmF xs : Int)) := by
  rw [e_whole]
  refine Res.W.eq ?_
  unfold m_whole_b
  simp only [w_fin, w_to, w_ok, w_seq]
  have hbd : ∀ i, i ≤ xs.length → 0 < lcmF (xs.take i) ∧ lcmF (xs.take i) < 2 ^ 8001 := fun i hi => by
    have h1 := lcmF_bd (xs := xs.take i) fun x h => hx x (List.mem_of_mem_take h)
    exact ⟨h1.1, lcmF_lt (fun x h => hx x (List.mem_of_mem_take h)) (by rw [List.length_take]; omega)⟩
  refine w_for (I := fun i s => s = ((lcmF (xs.take i) : Nat) : Int)) (fun k x s hk hs => ?_) rfl fun s hs => ?_
  · subst hs
    have hkl := (List.getElem?_eq_some_iff.mp hk).1
    obtain ⟨h1, h2⟩ := hbd k (by omega)
    obtain ⟨x1, x2, x3⟩ := hx x (List.mem_of_getElem? hk)
    show (m_whole_l1 x.1 x.2 _).W _ _ _ _ _
    unfold m_whole_l1
    simp only [w_to]
    have e : lcm_ ((lcmF (xs.take k) : Nat) : Int) x.2 = .ok (((lcmF (xs.take (k + 1)) : Nat)) : Int) := by
      rw [lcmF_take hk]
      unfold lcm_
      rw [if_pos, Int.natAbs_natCast]
      refine ⟨by omega, x1, natAbs_lt (by omega) (by rw [Int.natAbs_natCast]; exact pow_up h2 (by decide)), natAbs_lt x1 (pow_up x3 (by decide))⟩
    rw [e, w_ok, w_nx]
  · have hF := hbd xs.length (Nat.le_refl _)
    rw [List.take_length] at hs hF
    subst hs
    show ((mapL xs _).bind _).W _ _
    rw [mapL_k (l := xs) (g := fun x => x.1 * ((lcmF xs : Int) / x.2)) (fun x h => ?_) (by omega)]
    · exact (w_bind.trans (w_ok.trans w_ok)).mpr rfl
    · obtain ⟨x1, x2, x3⟩ := hx x h
      show ((fdiv ((lcmF xs : Nat) : Int) x.2).bind fun v => mul x.1 v) = _
      rw [fdiv_k x1 (pow_up x3 (by decide)), Res.bind_ok, mul_k 400 8001 x2 ?_]
      have hdv : x.2 ∣ ((lcmF xs : Nat) : Int) := Int.ofNat_dvd_right.mpr ((dvd_lcm xs 1).2 x h)
      obtain ⟨d, hd⟩ : ∃ d : Nat, x.2 = d := ⟨x.2.toNat, by omega⟩
      rw [hd] at hdv ⊢
      refine div_b (by omega) hdv ?_
      rw [Int.natAbs_natCast]
      exact hF.2
theorem shares_ok {xs : List Num} (hx : ∀ x ∈ xs, NumOk 400 x) (hl : xs.length ≤ 20) : m_is_shares xs = .ok (decide ((∀ x ∈ xs, 0 ≤ x.1) ∧ plusN xs = (1, 1))) := by
  rw [e_is_shares]
  refine Res.W.eq ?_
  unfold m_is_shares_b
  simp only [w_fin, w_to, w_ok, w_seq]
  refine w_for (I := fun i _ => ∀ x ∈ xs.take i, 0 ≤ x.1) (fun k x s hk hs => ?_) (fun x h => nomatch h) fun s hs => ?_
  · show (m_is_shares_l1 x.1 x.2).W _ _ _ _ _
    unfold m_is_shares_l1
    simp only [w_ifO, w_ok, w_rt, w_nx]
    split
    · rename_i h
      have h := of_decide_eq_true h
      exact (decide_eq_false fun q => absurd (q.1 x (List.mem_of_getElem? hk)) (by omega)).symm
    · rename_i h
      have h : ¬ x.1 < 0 := fun q => h (decide_eq_true q)
      intro y hy
      rw [List.take_add_one, hk] at hy
      rcases List.mem_append.mp hy with hy | hy
      · exact hs y hy
      · rw [List.mem_singleton.mp hy]
        omega
  · rw [List.take_length] at hs
    try dsimp only [up0]
    simp only [w_to, w_bind, w_calm, w_ok]
    rw [if_pos (by omega), plus_ok hx hl]
    simp only [w_calm, w_ok, w_rt]
    exact decide_eq_decide.mpr ⟨fun e => ⟨hs, e⟩, fun e => e.2⟩
end FB
set_option linter.all false
set_option maxRecDepth 100000
set_option maxHeartbeats 4000000
set_option exponentiation.threshold 20000
namespace FB
open FS PySem
open Py (dy un)
/-! weights that are lowered already -/
theorem gcd_scale (x : Nat → Nat) (g : Nat) : ∀ (c : List Nat) (a : Nat), c.foldl (fun a v => Nat.gcd a (g * x v)) (g * a) = g * c.foldl (fun a v => Nat.gcd a (x v)) a
  | [], a => rfl
  | v :: c, a => by
    rw [List.foldl_cons, List.foldl_cons, Nat.gcd_mul_left, gcd_scale x g c]
theorem low_gcd {row ws : List Int} (hr : 1 ≤ row.length) (hl : row.length = ws.length) {c : List Nat} (hc : c ∈ bkCells row) (h : gcdC ws c ≠ 0) : gcdC (bkWeights row ws) c = 1 := by
  have hval : ∀ v ∈ c, (ws.getD v 0).natAbs = gcdC ws c * ((bkWeights row ws).getD v 0).natAbs := fun v hv => by
    have hlt := (cells_ok hr hc).2 v hv
    obtain ⟨u, hu, e⟩ := cells_of_row hr hc
    have e2 := bkW_get hr hl hlt
    have e3 : insideN row row.length v = c := by
      rw [e] at hv ⊢
      exact inside_same hv
    rw [e3] at e2
    obtain ⟨k, hk⟩ := gcd_dvd (Nat.pos_of_ne_zero h) hv
    rw [e2, hk, Int.mul_ediv_cancel_left _ (by omega), Int.natAbs_mul, Int.natAbs_natCast]
  have h1 : gcdC ws c = gcdC ws c * gcdC (bkWeights row ws) c := by
    have : c.foldl (fun a v => Nat.gcd a (ws.getD v 0).natAbs) 0 = c.foldl (fun a v => Nat.gcd a (gcdC ws c * ((bkWeights row ws).getD v 0).natAbs)) (gcdC ws c * 0) := by
      rw [Nat.mul_zero]
      generalize (0 : Nat) = a0
      have : ∀ (l : List Nat) (a : Nat), (∀ v ∈ l, v ∈ c) → l.foldl (fun a v => Nat.gcd a (ws.getD v 0).natAbs) a = l.foldl (fun a v => Nat.gcd a (gcdC ws c * ((bkWeights row ws).getD v 0).natAbs)) a := by
        intro l
        induction l with
        | nil => exact fun a _ => rfl
        | cons v l ih =>
          intro a hv
          rw [List.foldl_cons, List.foldl_cons, hval v (hv v List.mem_cons_self), ih _ fun u hu => hv u (List.mem_cons_of_mem _ hu)]
      exact this c a0 fun v h => h
    rw [gcd_scale] at this
    exact this
  have h2 : gcdC ws c * 1 = gcdC ws c * gcdC (bkWeights row ws) c := by rw [Nat.mul_one]; exact h1
  exact (Nat.eq_of_mul_eq_mul_left (Nat.pos_of_ne_zero h) h2).symm
theorem bkW_len (row ws : List Int) : (bkWeights row ws).length = ws.length := lowN_len _ _ _
theorem bkW_idem {row ws : List Int} (hr : 1 ≤ row.length) (hl : row.length = ws.length) (h : ∀ c ∈ bkCells row, gcdC ws c ≠ 0) : bkWeights row (bkWeights row ws) = bkWeights row ws := by
  have hl2 : row.length = (bkWeights row ws).length := by rw [bkW_len]; exact hl
  refine List.ext_getElem (by rw [bkW_len]) fun v h1 h2 => ?_
  have hv : v < row.length := by rw [hl2]; exact h2
  have e := bkW_get hr hl2 hv
  rw [low_gcd hr hl (inside_cell hv) (h _ (inside_cell hv))] at e
  rw [List.getD_eq_getElem?_getD, List.getD_eq_getElem?_getD, List.getElem?_eq_getElem h1, List.getElem?_eq_getElem h2] at e
  simpa using e
theorem bkW_nn {row ws : List Int} (hr : 1 ≤ row.length) (hl : row.length = ws.length) (h : ∀ x ∈ ws, 0 ≤ x) : ∀ x ∈ bkWeights row ws, 0 ≤ x := fun x hx => by
  obtain ⟨v, hv, rfl⟩ := List.getElem_of_mem hx
  have hv2 : v < row.length := by rw [hl, ← bkW_len row ws]; exact hv
  have e := bkW_get hr hl hv2
  rw [List.getD_eq_getElem?_getD, List.getElem?_eq_getElem hv] at e
  have e : (bkWeights row ws)[v] = _ := e
  rw [e]
  have : 0 ≤ ws.getD v 0 := by
    rw [List.getD_eq_getElem?_getD, List.getElem?_eq_getElem (by omega)]
    exact h _ (List.getElem_mem _)
  exact Int.ediv_nonneg this (by omega)
/-! what is due -/
structure StOk (xs : List Num) : Prop where
  ok : ∀ x ∈ xs, NumOk 400 x
  len : xs.length ≤ 20
  low : lcmF xs < 2 ^ 1900
theorem wholeC_nn {xs : List Num} (h : ∀ x ∈ xs, NumOk 400 x) : (∀ y ∈ wholeC xs, 0 ≤ y) ↔ ∀ x ∈ xs, 0 ≤ x.1 := by
  have hd : ∀ x ∈ xs, 0 < ((lcmF xs : Nat) : Int) / x.2 := fun x hx => by
    have hdv : x.2 ∣ ((lcmF xs : Nat) : Int) := Int.ofNat_dvd_right.mpr ((dvd_lcm xs 1).2 x hx)
    have := (lcmF_bd h).1
    exact Int.ediv_pos_of_pos_of_dvd (by omega) (by have := (h x hx).1; omega) hdv
  constructor
  · intro hy x hx
    have h1 := hy _ (List.mem_map.mpr ⟨x, hx, rfl⟩)
    by_cases h2 : 0 ≤ x.1
    · exact h2
    · have := Int.mul_neg_of_neg_of_pos (show x.1 < 0 by omega) (hd x hx)
      omega
  · intro hx y hy
    obtain ⟨x, hx1, rfl⟩ := List.mem_map.mp hy
    exact Int.mul_nonneg (hx x hx1) (Int.le_of_lt (hd x hx1))
theorem le_sum : ∀ {l : List Int} {x : Int}, (∀ y ∈ l, 0 ≤ y) → x ∈ l → x ≤ l.sum
  | y :: l, x, h, hx => by
    rw [List.sum_cons]
    have h0 : 0 ≤ l.sum := by
      have : ∀ {m : List Int}, (∀ y ∈ m, 0 ≤ y) → 0 ≤ m.sum := by
        intro m
        induction m with
        | nil => exact fun _ => Int.le_refl _
        | cons z m ih => intro hm; rw [List.sum_cons]; have := hm z List.mem_cons_self; have := ih fun w hw => hm w (List.mem_cons_of_mem _ hw); omega
      exact this fun z hz => h z (List.mem_cons_of_mem _ hz)
    have hy := h y List.mem_cons_self
    rcases List.mem_cons.mp hx with rfl | hx
    · omega
    · have := le_sum (fun z hz => h z (List.mem_cons_of_mem _ hz)) hx
      omega
/-- the whole numbers of shares -/
def Shares (xs : List Num) : Prop := (∀ x ∈ xs, 0 ≤ x.1) ∧ plusN xs = (1, 1)
theorem shares_iff {xs : List Num} (h : StOk xs) : Shares xs ↔ (∀ y ∈ wholeC xs, 0 ≤ y) ∧ (wholeC xs).sum = (lcmF xs : Int) := by
  unfold Shares
  rw [wholeC_nn h.ok, plus_one h.ok]
theorem shares_bd {xs : List Num} (h : StOk xs) (hs : Shares xs) : ∀ y ∈ wholeC xs, 0 ≤ y ∧ y.natAbs < 2 ^ 1999 := fun y hy => by
  obtain ⟨h1, h2⟩ := (shares_iff h).mp hs
  refine ⟨h1 y hy, ?_⟩
  have := le_sum h1 hy
  have h0 := h1 y hy
  have : y.natAbs ≤ lcmF xs := by omega
  exact Nat.lt_of_le_of_lt this (pow_up h.low (by decide))
theorem wholeC_len (xs : List Num) : (wholeC xs).length = xs.length := List.length_map _
end FB
set_option linter.all false
set_option maxRecDepth 100000
set_option maxHeartbeats 4000000
set_option exponentiation.threshold 20000
namespace FB
open FS PySem
open Py (dy un)
section
variable {sights : List (List Int)} {xs : List Num} {n : Nat}
/-- rows of a book of n worlds -/
structure Rows (n : Nat) (sights : List (List Int)) : Prop where
  n1 : 1 ≤ n
  n2 : n ≤ 12
  p1 : 1 ≤ sights.length
  p2 : sights.length ≤ 6
  row : ∀ r ∈ sights, r.length = n
theorem Rows.at (h : Rows n sights) {p : Nat} (hp : p < sights.length) : sights[p]? = some (sights.getD p []) ∧ (sights.getD p []).length = n := by
  have e : sights.getD p [] = sights[p] := by rw [List.getD_eq_getElem?_getD, List.getElem?_eq_getElem hp]; rfl
  rw [e]
  exact ⟨List.getElem?_eq_getElem hp, h.row _ (List.getElem_mem hp)⟩
theorem Fits.rows (h : Fits sights) : ∃ n, Rows n sights := by
  obtain ⟨n, h1, h2, h3⟩ := h
  exact ⟨n, h1.1, h1.2, h2.1, h2.2, fun r hr => (h3 r hr).1⟩
/-- no cell of the people before p is without weight -/
def Clean (sights : List (List Int)) (ws : List Int) (p : Nat) : Prop := ∀ j, j < p → firstBad (bkCells (sights.getD j [])) ws = none
def oddsK (sights : List (List Int)) (ws : List Int) (p : Nat) : List (List Int) := (List.range p).map fun j => bkWeights (sights.getD j []) ws
theorem oddsK_succ {ws : List Int} {p : Nat} : oddsK sights ws (p + 1) = oddsK sights ws p ++ [bkWeights (sights.getD p []) ws] := by
  unfold oddsK
  rw [List.range_succ, List.map_append]
  rfl
theorem oddsK_len {ws : List Int} {p : Nat} : (oddsK sights ws p).length = p := by rw [oddsK, List.length_map, List.length_range]
theorem Rows.cells (h : Rows n sights) {p : Nat} (hp : p < sights.length) {ws : List Int} (hl : ws.length = n) (hw : ∀ y ∈ ws, 0 ≤ y ∧ y.natAbs < 2 ^ 1999) : CellsOk (bkCells (sights.getD p [])) ws :=
  cells_take (by rw [(h.at hp).2]; exact h.n1) (by rw [(h.at hp).2, hl]) hw
/-- all are clean, or there is a first one that is not -/
theorem clean_or (sights : List (List Int)) (ws : List Int) : ∀ m : Nat, Clean sights ws m ∨ ∃ p w, p < m ∧ Clean sights ws p ∧ firstBad (bkCells (sights.getD p [])) ws = some w
  | 0 => .inl fun j hj => absurd hj (Nat.not_lt_zero j)
  | m + 1 => by
    rcases clean_or sights ws m with h | ⟨p, w, h1, h2, h3⟩
    · cases e : firstBad (bkCells (sights.getD m [])) ws with
      | none =>
        refine .inl fun j hj => ?_
        by_cases ej : j = m
        · subst ej
          exact e
        · exact h j (by omega)
      | some w => exact .inr ⟨m, w, by omega, h, e⟩
    · exact .inr ⟨p, w, by omega, h2, h3⟩
/-! the law's side -/
theorem common_ok (h : StOk xs) {N : Int → Prop} {Q : List Dy → Prop} {E : Xn → Prop} (hn : N (lcmF xs : Int)) : (forO (fun number' : Int × Int => up1 (m_law_due_l1 number')) xs 1 : Out Int Unit (List Dy)).W N Q E (fun _ => False) (fun _ => False) := by
  have hbd : ∀ i, i ≤ xs.length → 0 < lcmF (xs.take i) ∧ lcmF (xs.take i) < 2 ^ 8001 := fun i hi => by
    have h1 := lcmF_bd (xs := xs.take i) fun x hx => h.ok x (List.mem_of_mem_take hx)
    exact ⟨h1.1, lcmF_lt (fun x hx => h.ok x (List.mem_of_mem_take hx)) (by rw [List.length_take]; have := h.len; omega)⟩
  refine w_for (I := fun i s => s = ((lcmF (xs.take i) : Nat) : Int)) (fun k x s hk hs => ?_) rfl fun s hs => ?_
  · subst hs
    have hkl := (List.getElem?_eq_some_iff.mp hk).1
    obtain ⟨h1, h2⟩ := hbd k (by omega)
    obtain ⟨x1, x2, x3⟩ := h.ok x (List.mem_of_getElem? hk)
    show (m_law_due_l1 x _).W _ _ _ _ _
    unfold m_law_due_l1
    simp only [w_to, w_bind, w_calm]
    rw [lgcd (by omega) (by omega) (pow_up x3 (by decide)), w_ok, fdiv_k (gcd_pI x1) (gcd_bI x1 (pow_up x3 (by decide))), w_ok]
    have g0 : 0 < Nat.gcd (((lcmF (xs.take k) : Nat) : Int)).natAbs x.2.natAbs := Nat.gcd_pos_of_pos_right _ (by omega)
    have hdv : ((Nat.gcd (((lcmF (xs.take k) : Nat) : Int)).natAbs x.2.natAbs : Nat) : Int) ∣ ((lcmF (xs.take k) : Nat) : Int) := Int.ofNat_dvd_left.mpr (Nat.gcd_dvd_left _ _)
    rw [mul_k 8001 400 (div_b g0 hdv (by rw [Int.natAbs_natCast]; exact h2)) x3, w_ok, w_nx, lcmF_take hk]
    rw [Int.natAbs_natCast]
    obtain ⟨d, hd⟩ : ∃ d : Nat, x.2 = d := ⟨x.2.toNat, by omega⟩
    rw [hd, Int.natAbs_natCast]
    generalize lcmF (xs.take k) = f
    have e : Nat.lcm f d = f / Nat.gcd f d * d := by
      unfold Nat.lcm
      obtain ⟨q, hq⟩ := Nat.gcd_dvd_left f d
      by_cases hz : Nat.gcd f d = 0
      · rw [hz]
        simp
      · rw [Nat.div_eq_of_eq_mul_right (Nat.pos_of_ne_zero hz) (show f * d = Nat.gcd f d * (q * d) by rw [← Nat.mul_assoc, ← hq]), Nat.div_eq_of_eq_mul_right (Nat.pos_of_ne_zero hz) hq]
    rw [e, Int.natCast_mul, Int.natCast_ediv]
  · rw [List.take_length] at hs
    subst hs
    exact hn
theorem counts_ok (h : StOk xs) : (mapL xs (fun number' : Int × Int => (fdiv (lcmF xs : Int) number'.2).bind fun v170 => mul number'.1 v170)) = .ok (wholeC xs) := by
  have hF := lcmF_bd h.ok
  refine mapL_k (l := xs) (g := fun x => x.1 * ((lcmF xs : Int) / x.2)) (fun x hx => ?_) (by have := h.len; omega)
  obtain ⟨x1, x2, x3⟩ := h.ok x hx
  rw [fdiv_k x1 (pow_up x3 (by decide)), Res.bind_ok, mul_k 400 8001 x2 ?_]
  have hdv : x.2 ∣ ((lcmF xs : Nat) : Int) := Int.ofNat_dvd_right.mpr ((dvd_lcm xs 1).2 x hx)
  obtain ⟨d, hd⟩ : ∃ d : Nat, x.2 = d := ⟨x.2.toNat, by omega⟩
  rw [hd] at hdv ⊢
  refine div_b (by omega) hdv ?_
  rw [Int.natAbs_natCast]
  exact lcmF_lt h.ok h.len
theorem labels_ok (h : Rows n sights) : mapL sights (fun row' => (m_law_numbered row').calm) = .ok (sights.map fun r => cI (numbN r)) := mapL_k (g := fun r => cI (numbN r)) (fun r hr => by
  have := h.row r hr
  have := h.n2
  rw [lnumbered_ok (by omega)]
  rfl) (by have := h.p2; omega)
theorem labels_at (h : Rows n sights) {p : Nat} (hp : p < sights.length) : at_ (sights.map fun r => cI (numbN r)) (p : Int) = .ok (cI (numbN (sights.getD p []))) := at_k (by rw [List.getElem?_map, (h.at hp).1]; rfl)
/-- one turn of the law's loop over the people -/
theorem due_l2 (h : Rows n sights) {ws : List Int} (hl : ws.length = n) (hw : ∀ y ∈ ws, 0 ≤ y ∧ y.natAbs < 2 ^ 1999) {p : Nat} (hp : p < sights.length) {o : List Dy} (ho : o.length ≤ 10) :
    m_law_due_l2 ws (sights.map fun r => cI (numbN r)) (p : Int) o = match firstBad (bkCells (sights.getD p [])) ws with | none => .nx (o ++ [dy (bkWeights (sights.getD p []) ws)]) | some w => .rt [dy (("BadOdds" : Str) : Str), dy (p : Int), dy (w : Int)] := by
  unfold m_law_due_l2
  have hn := (h.at hp).2
  rw [labels_at h hp, Res.bind_ok, Res.bind_ok, lcells_ok (by rw [hn]; exact h.n1) (by rw [hn]; exact h.n2), Res.calm_ok, Res.bind_ok, Res.bind_ok, llowest_ok (h.cells hp hl hw), Res.calm_ok, Res.to_ok]
  cases e : firstBad (bkCells (sights.getD p [])) ws with
  | none =>
    show ifO (isI isInt (dy (lowN _ ws))) _ _ = _
    rw [show isI isInt (dy (lowN (bkCells (sights.getD p [])) ws)) = .ok false from rfl]
    simp only [ifO, Res.to_ok]
    rw [if_neg (by decide), app_k (by omega), Res.to_ok]
    rfl
  | some w => rfl
end
end FB
set_option linter.all false
set_option maxRecDepth 100000
set_option maxHeartbeats 4000000
set_option exponentiation.threshold 20000
namespace FB
open FS PySem
open Py (dy un)
section
variable {sights : List (List Int)} {xs : List Num} {n : Nat}
def sBadBook : Dy := dy (("BadBook" : Str) : Str)
def sBadRow : Dy := dy (("BadRow" : Str) : Str)
def sBadOdds : Dy := dy (("BadOdds" : Str) : Str)
def sBook : Dy := dy (("book" : Str) : Str)
def Heavy (o : List (List Int)) : Prop := ¬ ∀ r ∈ o, ∀ x ∈ r, x ≤ 10 ^ 40
/-- the end of what is due: the people one by one -/
theorem due_tail (hst : StOk xs) (hf : Fits sights) (h : Rows n sights) (hx : xs.length = n) (hs : Shares xs) {A : List Dy → Prop}
    (h1 : ∀ p w, p < sights.length → Clean sights (wholeC xs) p → firstBad (bkCells (sights.getD p [])) (wholeC xs) = some w → A [sBadOdds, dy (p : Int), dy (w : Int)])
    (h2 : Clean sights (wholeC xs) sights.length → Heavy (oddsK sights (wholeC xs) sights.length) → A [sBadBook])
    (h3 : Clean sights (wholeC xs) sights.length → ¬ Heavy (oddsK sights (wholeC xs) sights.length) → A [sBook, dy (sights.map fun r => cI (numbN r)), dy ((oddsK sights (wholeC xs) sights.length).map dy : List Dy)]) : (m_law_due sights xs).W A fun _ => False := by
  have hl : (wholeC xs).length = n := by rw [wholeC_len, hx]
  have hw := shares_bd hst hs
  rw [e_law_due]
  unfold m_law_due_b
  have h0 := h.at (p := 0) (by have := h.p1; omega)
  rw [lfits_ok.1 hf]
  simp only [w_fin, w_ifO, w_calm, w_bind, w_ok, w_up, w_rt]
  rw [if_neg (by decide), at_k (k := 0) h0.1]
  simp only [w_ok]
  rw [if_neg (by rw [h0.2, hx]; simp)]
  simp only [w_to, w_ok, w_seq]
  refine common_ok hst ?_
  try simp only [w_to]
  have hsh := (shares_iff hst).mp hs
  rw [counts_ok hst, w_ok]
  obtain ⟨m, e, hm, hb⟩ := minL_k (l := wholeC xs) (by intro e; rw [e] at hl; have : (0 : Nat) = n := hl; have := h.n1; omega)
  simp only [w_ifO, w_orR, w_bind, w_up, w_rt]
  rw [e]
  simp only [w_ok]
  rw [if_neg (by rw [decide_eq_true_eq]; have := hsh.1 m hm; omega), hsh.2, if_neg (by simp)]
  simp only [w_to, w_ok, w_seq]
  rw [labels_ok h, w_ok]
  have e3 : range1 ((sights.map fun r => cI (numbN r)).length : Int) = .ok ((List.range sights.length).map fun k : Nat => (k : Int)) := range1_k (n := sights.length) (by have := h.p2; omega) (by rw [List.length_map])
  rw [e3, w_ok]
  refine w_for (I := fun k s => Clean sights (wholeC xs) k ∧ s = (oddsK sights (wholeC xs) k).map dy) (fun k x s hk hi => ?_) ⟨fun j hj => absurd hj (Nat.not_lt_zero j), rfl⟩ fun s hi => ?_
  · obtain ⟨rfl, hkl⟩ := range_get hk
    obtain ⟨hc, rfl⟩ := hi
    show (m_law_due_l2 _ _ (k : Int) _).W _ _ _ _ _
    rw [due_l2 h hl hw hkl (by rw [List.length_map, oddsK_len]; have := h.p2; omega)]
    cases e4 : firstBad (bkCells (sights.getD k [])) (wholeC xs) with
    | none =>
      refine ⟨fun j hj => ?_, ?_⟩
      · by_cases ej : j = k
        · subst ej
          exact e4
        · exact hc j (by omega)
      · rw [oddsK_succ, List.map_append]
        rfl
    | some w => exact h1 k w hkl hc e4
  · rw [range_len] at hi
    obtain ⟨hc, rfl⟩ := hi
    try simp only [w_seq, w_to, w_ok]
    generalize hO : oddsK sights (wholeC xs) sights.length = O at h2 h3
    have hne : ∀ r ∈ O, r ≠ [] := fun r hr e => by
      rw [← hO] at hr
      obtain ⟨j, hj, rfl⟩ := List.mem_map.mp hr
      have := bkW_len (sights.getD j []) (wholeC xs)
      rw [e, hl] at this
      have : (0 : Nat) = n := this
      have := h.n1
      omega
    refine w_for (I := fun k _ => ∀ r ∈ O.take k, ∀ x ∈ r, x ≤ 10 ^ 40) (fun k x s hk hi => ?_) (fun r hr => nomatch hr) fun s hi => ?_
    · rw [List.getElem?_map] at hk
      obtain ⟨r, hr, rfl⟩ := Option.map_eq_some_iff.mp hk
      have hm2 := List.mem_of_getElem? hr
      show (m_law_due_l3 (dy r)).W _ _ _ _ _
      unfold m_law_due_l3
      rw [cast_dy]
      obtain ⟨m2, e5, hm3, hb3⟩ := maxL_k (hne r hm2)
      simp only [w_ifO, w_bind, w_ok, w_rt, w_nx]
      rw [e5]
      simp only [w_ok]
      split
      · rename_i h6
        have h6 := of_decide_eq_true h6
        refine h2 hc fun q => ?_
        have := q r hm2 m2 hm3
        rw [p40] at this
        omega
      · rename_i h6
        have h6 : ¬ 10000000000000000000000000000000000000000 < m2 := fun q => h6 (decide_eq_true q)
        intro y hy x hx2
        rw [List.take_add_one, hr] at hy
        rcases List.mem_append.mp hy with hy | hy
        · exact hi y hy x hx2
        · rw [List.mem_singleton.mp hy] at hx2
          have := hb3 x hx2
          rw [p40]
          omega
    · rw [List.length_map, List.take_length] at hi
      exact h3 hc fun q => q hi
/-! the book's side -/
theorem start_l1 (h : Rows n sights) {ws : List Int} (hl : ws.length = n) (hw : ∀ y ∈ ws, 0 ≤ y ∧ y.natAbs < 2 ^ 1999) {p : Nat} (hp : p < sights.length) {o : List (List Int)} (ho : o.length ≤ 10) :
    m_Book_from_start_l1 sights ws (p : Int) o = match firstBad (bkCells (sights.getD p [])) ws with | none => .nx (o ++ [bkWeights (sights.getD p []) ws]) | some w => .ex ("BadOdds", [.int (p : Int), .int (w : Int)]) := by
  unfold m_Book_from_start_l1
  have hn := (h.at hp).2
  have h1 := h.n1
  have h2 := h.n2
  have hmx := mx_numb (row := sights.getD p []) (by omega)
  have e1 := numbered_ok (row := sights.getD p []) (by omega)
  have e2 := gathered_ok (lab := numbN (sights.getD p [])) (numb_ne (by omega)) (by rw [numb_len]; omega) (by omega)
  rw [show gathN (numbN (sights.getD p [])) = bkCells (sights.getD p []) from rfl] at e2
  simp only [at_k (h.at hp).1, Res.bind_ok, e1, e2, Res.calm_ok, lowest_ok (h.cells hp hl hw)]
  cases e : firstBad (bkCells (sights.getD p [])) ws with
  | none =>
    show (app o _).to _ = _
    rw [app_k (by omega)]
    rfl
  | some w => rfl
theorem start_tail (hst : StOk xs) (hf : Fits sights) (h : Rows n sights) (hx : xs.length = n) (hs : Shares xs) :
    (∀ p w, p < sights.length → Clean sights (wholeC xs) p → firstBad (bkCells (sights.getD p [])) (wholeC xs) = some w → m_Book_from_start ⟨⟩ sights xs = .ex ("BadOdds", [.int (p : Int), .int (w : Int)]))
    ∧ (Clean sights (wholeC xs) sights.length → m_Book_init sights (oddsK sights (wholeC xs) sights.length) ≠ .no → m_Book_from_start ⟨⟩ sights xs = m_Book_init sights (oddsK sights (wholeC xs) sights.length)) := by
  have hl : (wholeC xs).length = n := by rw [wholeC_len, hx]
  have hw := shares_bd hst hs
  have h0 := h.at (p := 0) (by have := h.p1; omega)
  have e3 : range1 (sights.length : Int) = .ok ((List.range sights.length).map fun k : Nat => (k : Int)) := range1_k (n := sights.length) (by have := h.p2; omega)
  have go : ∀ r0 : Res Book, (∀ p w, p < sights.length → Clean sights (wholeC xs) p → firstBad (bkCells (sights.getD p [])) (wholeC xs) = some w → r0 = .ex ("BadOdds", [.int (p : Int), .int (w : Int)])) → (Clean sights (wholeC xs) sights.length → (m_Book_init sights (oddsK sights (wholeC xs) sights.length)).W (fun a => r0 = .ok a) fun z => r0 = .ex z) → m_Book_from_start ⟨⟩ sights xs = r0 := by
    intro r0 g1 g2
    rw [e_Book_from_start]
    unfold m_Book_from_start_b
    rw [check_sights_ok.1 hf, shares_ok hst.ok hst.len, whole_ok hst.ok hst.len, e3]
    have hd : decide ((∀ x ∈ xs, 0 ≤ x.1) ∧ plusN xs = (1, 1)) = true := decide_eq_true hs
    refine Res.W.is ?_
    simp only [w_fin, w_to, w_ok, w_ifO, w_orR, w_bind, w_up, w_exO, w_calm, w_seq]
    rw [at_k (k := 0) h0.1]
    simp only [w_ok]
    rw [if_neg (by rw [h0.2, hx]; simp), hd, if_neg (by decide)]
    refine w_for (I := fun k s => Clean sights (wholeC xs) k ∧ s = oddsK sights (wholeC xs) k) (fun k x s hk hi => ?_) ⟨fun j hj => absurd hj (Nat.not_lt_zero j), rfl⟩ fun s hi => ?_
    · obtain ⟨rfl, hkl⟩ := range_get hk
      obtain ⟨hc, rfl⟩ := hi
      show (m_Book_from_start_l1 _ _ (k : Int) _).W _ _ _ _ _
      rw [start_l1 h hl hw hkl (by rw [oddsK_len]; have := h.p2; omega)]
      cases e4 : firstBad (bkCells (sights.getD k [])) (wholeC xs) with
      | none =>
        refine ⟨fun j hj => ?_, oddsK_succ.symm⟩
        by_cases ej : j = k
        · subst ej
          exact e4
        · exact hc j (by omega)
      | some w => exact g1 k w hkl hc e4
    · rw [range_len] at hi
      obtain ⟨hc, rfl⟩ := hi
      exact g2 hc
  refine ⟨fun p w h1 h2 h3 => go _ (fun p' w' h1' h2' h3' => ?_) fun hc => ?_, fun h1 hno => go _ (fun p' w' h1' h2' h3' => ?_) fun hc => ?_⟩
  · have e : p = p' := by
      rcases Nat.lt_trichotomy p p' with q | q | q
      · rw [h2' p q] at h3
        cases h3
      · exact q
      · rw [h2 p' q] at h3'
        cases h3'
    subst e
    rw [h3] at h3'
    cases h3'
    rfl
  · rw [hc p h1] at h3
    cases h3
  · rw [h1 p' h1'] at h3'
    cases h3'
  · cases e : m_Book_init sights (oddsK sights (wholeC xs) sights.length) with
    | ok b => rfl
    | ex z => rfl
    | no => exact absurd e hno
end
end FB
set_option linter.all false
set_option maxRecDepth 100000
set_option maxHeartbeats 4000000
set_option exponentiation.threshold 20000
namespace FB
open FS PySem
open Py (dy un)
section
variable {sights : List (List Int)} {xs : List Num} {n : Nat}
structure BookIs (b : Book) (L O : List (List Int)) : Prop where
  w : ∃ r, L[0]? = some r ∧ b.f_worlds = (r.length : Int)
  p : b.f_people = (L.length : Int)
  l : b.f__labels = L
  o : b.f__weights = O
  ll : L.length ≤ 12
  lr : ∀ r ∈ L, r.length ≤ 12
  ol : O.length ≤ 12
  or_ : ∀ r ∈ O, r.length ≤ 12
/-- what is due and what the book's maker tells agree -/
inductive Agr : List Dy → Res Book → Prop
  | bb : Agr [sBadBook] (.ex ("BadBook", []))
  | br : Agr [sBadRow] (.ex ("BadRow", []))
  | bo (p w : Int) : Agr [sBadOdds, dy p, dy w] (.ex ("BadOdds", [.int p, .int w]))
  | ok (b : Book) (L O : List (List Int)) (h : BookIs b L O) : Agr [sBook, dy L, dy (O.map dy : List Dy)] (.ok b)
theorem agr (hst : StOk xs) : ∃ due, m_law_due sights xs = .ok due ∧ Agr due (m_Book_from_start ⟨⟩ sights xs) := by
  by_cases hf : Fits sights
  case neg =>
    refine ⟨[sBadBook], ?_, ?_⟩
    · rw [e_law_due]
      refine Res.W.eq ?_
      unfold m_law_due_b
      rw [lfits_ok.2 hf]
      simp only [w_fin, w_ifO, w_calm, w_bind, w_ok, w_up, w_rt]
      rw [if_pos (by decide)]
      rfl
    · have e : m_Book_from_start ⟨⟩ sights xs = .ex ("BadBook", []) := by
        rw [e_Book_from_start]
        refine Res.W.is ?_
        unfold m_Book_from_start_b
        rw [check_sights_ok.2 hf]
        simp only [w_fin, w_to, w_ex]
      rw [e]
      exact .bb
  obtain ⟨n, h⟩ := hf.rows
  have h0 := h.at (p := 0) (by have := h.p1; omega)
  by_cases hx : xs.length = n
  case neg =>
    refine ⟨[sBadRow], ?_, ?_⟩
    · rw [e_law_due]
      refine Res.W.eq ?_
      unfold m_law_due_b
      rw [lfits_ok.1 hf]
      simp only [w_fin, w_ifO, w_calm, w_bind, w_ok, w_up, w_rt]
      rw [if_neg (by decide), at_k (k := 0) h0.1]
      simp only [w_ok]
      rw [if_pos (by rw [h0.2]; simp; omega)]
      rfl
    · have e : m_Book_from_start ⟨⟩ sights xs = .ex ("BadRow", []) := by
        rw [e_Book_from_start]
        refine Res.W.is ?_
        unfold m_Book_from_start_b
        rw [check_sights_ok.1 hf]
        simp only [w_fin, w_to, w_ok, w_ifO, w_orR, w_bind, w_up, w_exO]
        rw [at_k (k := 0) h0.1]
        simp only [w_ok]
        rw [if_pos (by rw [h0.2]; simp; omega), if_pos trivial]
        trivial
      rw [e]
      exact .br
  by_cases hs : Shares xs
  case neg =>
    have hl : (wholeC xs).length = n := by rw [wholeC_len, hx]
    refine ⟨[sBadRow], ?_, ?_⟩
    · rw [e_law_due]
      refine Res.W.eq ?_
      unfold m_law_due_b
      rw [lfits_ok.1 hf]
      simp only [w_fin, w_ifO, w_calm, w_bind, w_ok, w_up, w_rt]
      rw [if_neg (by decide), at_k (k := 0) h0.1]
      simp only [w_ok]
      rw [if_neg (by rw [h0.2, hx]; simp)]
      simp only [w_to, w_ok, w_seq]
      refine common_ok hst ?_
      try simp only [w_to]
      rw [counts_ok hst, w_ok]
      obtain ⟨m, e, hm, hb⟩ := minL_k (l := wholeC xs) (by intro e; rw [e] at hl; have : (0 : Nat) = n := hl; have := h.n1; omega)
      simp only [w_ifO, w_orR, w_bind, w_up, w_rt]
      rw [e]
      simp only [w_ok]
      by_cases hm0 : m < 0
      · rw [if_pos (decide_eq_true hm0), if_pos trivial]
        rfl
      · rw [if_neg (by rw [decide_eq_true_eq]; exact hm0)]
        have hne : ¬ (wholeC xs).sum = (lcmF xs : Int) := fun q => hs ((shares_iff hst).mpr ⟨fun y hy => by have := hb y hy; omega, q⟩)
        rw [if_pos (by simp [hne])]
        rfl
    · have e : m_Book_from_start ⟨⟩ sights xs = .ex ("BadRow", []) := by
        rw [e_Book_from_start]
        refine Res.W.is ?_
        unfold m_Book_from_start_b
        rw [check_sights_ok.1 hf, shares_ok hst.ok hst.len]
        have hd : decide ((∀ x ∈ xs, 0 ≤ x.1) ∧ plusN xs = (1, 1)) = false := decide_eq_false hs
        simp only [w_fin, w_to, w_ok, w_ifO, w_orR, w_bind, w_up, w_exO, w_calm]
        rw [at_k (k := 0) h0.1]
        simp only [w_ok]
        rw [if_neg (by rw [h0.2, hx]; simp), hd, if_pos (by decide)]
        trivial
      rw [e]
      exact .br
  obtain ⟨t1, t2⟩ := start_tail hst hf h hx hs
  rcases clean_or sights (wholeC xs) sights.length with hc | ⟨p, w, h1, h2, h3⟩
  case inr =>
    refine ⟨[sBadOdds, dy (p : Int), dy (w : Int)], Res.W.eq (due_tail hst hf h hx hs (fun p' w' h1' h2' h3' => ?_) (fun hc => ?_) fun hc => ?_), ?_⟩
    · have e : p = p' := by
        rcases Nat.lt_trichotomy p p' with q | q | q
        · rw [h2' p q] at h3
          cases h3
        · exact q
        · rw [h2 p' q] at h3'
          cases h3'
      subst e
      rw [h3] at h3'
      cases h3'
      rfl
    · rw [hc p h1] at h3
      cases h3
    · rw [hc p h1] at h3
      cases h3
    · rw [t1 p w h1 h2 h3]
      exact .bo _ _
  have hl : (wholeC xs).length = n := by rw [wholeC_len, hx]
  have hw := shares_bd hst hs
  have hclean : ∀ p, p < sights.length → ∀ c ∈ bkCells (sights.getD p []), gcdC (wholeC xs) c ≠ 0 := fun p hp c hcm h0 => by
    have e := hc p hp
    unfold firstBad at e
    rw [Option.map_eq_none_iff, List.find?_eq_none] at e
    exact absurd (by simpa using h0) (e c hcm)
  have hrow : ∀ (p : Nat) (w : List Int), (oddsK sights (wholeC xs) sights.length)[p]? = some w → p < sights.length ∧ w = bkWeights (sights.getD p []) (wholeC xs) := fun p w e => by
    unfold oddsK at e
    rw [List.getElem?_map] at e
    obtain ⟨j, h1, rfl⟩ := Option.map_eq_some_iff.mp e
    obtain ⟨h2, h3⟩ := List.getElem?_eq_some_iff.mp h1
    rw [List.getElem_range] at h3
    rw [List.length_range] at h2
    subst h3
    exact ⟨h2, rfl⟩
  have hor : ∀ r ∈ oddsK sights (wholeC xs) sights.length, r.length = (sights.getD 0 []).length ∧ ∀ x ∈ r, 0 ≤ x := fun r hr => by
    obtain ⟨p, hp, rfl⟩ := List.getElem_of_mem hr
    obtain ⟨h1, h2⟩ := hrow p _ (List.getElem?_eq_getElem hp)
    rw [h2, bkW_len, hl, h0.2]
    exact ⟨rfl, bkW_nn (by rw [(h.at h1).2]; exact h.n1) (by rw [(h.at h1).2, hl]) fun y hy => (hw y hy).1⟩
  by_cases hh : Heavy (oddsK sights (wholeC xs) sights.length)
  · have ei : m_Book_init sights (oddsK sights (wholeC xs) sights.length) = .ex ("BadBook", []) := by
      rw [e_Book_init]
      refine Res.W.is ?_
      unfold m_Book_init_b
      rw [check_sights_ok.1 hf, (check_odds_ok h0.1 oddsK_len hor).2 hh]
      simp only [w_made, w_to, w_ok, w_ex]
    refine ⟨[sBadBook], Res.W.eq (due_tail hst hf h hx hs (fun p' w' h1' h2' h3' => ?_) (fun _ _ => rfl) fun _ q => absurd hh q), ?_⟩
    · rw [hc p' h1'] at h3'
      cases h3'
    · rw [t2 hc (by rw [ei]; exact fun q => nomatch q), ei]
      exact .bb
  · have h40 : ∀ r ∈ oddsK sights (wholeC xs) sights.length, ∀ x ∈ r, x ≤ 10 ^ 40 := Classical.not_not.mp hh
    have tk : Takes sights (oddsK sights (wholeC xs) sights.length) := ⟨hf, oddsK_len, fun p r w hr hw2 => by
      obtain ⟨h1, rfl⟩ := hrow p w hw2
      have er : sights.getD p [] = r := by rw [List.getD_eq_getElem?_getD, hr]; rfl
      have hm := List.mem_of_getElem? hw2
      have hrl := (h.at h1).2
      rw [er] at hrl hm ⊢
      refine ⟨by rw [bkW_len, hl, hrl], fun x hx => ⟨(hor _ hm).2 x hx, h40 _ hm x hx⟩, fun c hcm => ?_⟩
      have := hclean p h1 c (by rw [er]; exact hcm)
      rw [low_gcd (by rw [hrl]; exact h.n1) (by rw [hrl, hl]) hcm this]
      decide⟩
    obtain ⟨b, eb, b1, b2, b3, b4⟩ := init_ok tk
    refine ⟨[sBook, dy (sights.map fun r => cI (numbN r)), dy ((oddsK sights (wholeC xs) sights.length).map dy : List Dy)], Res.W.eq (due_tail hst hf h hx hs (fun p' w' h1' h2' h3' => ?_) (fun _ q => absurd q hh) fun _ _ => rfl), ?_⟩
    · rw [hc p' h1'] at h3'
      cases h3'
    · rw [t2 hc (by rw [eb]; exact fun q => nomatch q), eb]
      refine .ok b _ _ ⟨⟨_, by rw [List.getElem?_map, h0.1]; rfl, ?_⟩, by rw [b1, List.length_map], b3, ?_, ?_, fun r hr => ?_, ?_, fun r hr => ?_⟩
      · rw [b2 _ h0.1, cI_len, numb_len]
      · rw [b4]
        unfold oddsK
        refine List.map_congr_left fun p hp => ?_
        rw [List.mem_range] at hp
        have e : ((List.range sights.length).map fun j => bkWeights (sights.getD j []) (wholeC xs)).getD p [] = bkWeights (sights.getD p []) (wholeC xs) := by
          rw [List.getD_eq_getElem?_getD, List.getElem?_map, List.getElem?_range hp]
          rfl
        rw [e]
        exact bkW_idem (by rw [(h.at hp).2]; exact h.n1) (by rw [(h.at hp).2, hl]) (hclean p hp)
      · rw [List.length_map]; have := h.p2; omega
      · obtain ⟨r', hr', rfl⟩ := List.mem_map.mp hr
        rw [cI_len, numb_len, h.row r' hr']
        exact h.n2
      · rw [oddsK_len]; have := h.p2; omega
      · rw [(hor r hr).1, h0.2]
        exact h.n2
end
end FB
set_option linter.all false
set_option maxRecDepth 100000
set_option maxHeartbeats 4000000
set_option exponentiation.threshold 20000
namespace FB
open FS PySem
open Py (dy un)
section
variable {sights : List (List Int)} {xs : List Num} {n : Nat}
/-! same data -/
def Nice : Nat → Dy → Prop
  | _, .int _ => True
  | n + 1, .lst l => l.length ≤ 1000 ∧ ∀ d ∈ l, Nice n d
  | _, _ => False
theorem same_ok : ∀ (n : Nat) (d : Dy), Nice n d → m_law_same (n + 1) d d = .ok true
  | n, .int a, _ => by
    rw [e_law_same]
    refine Res.W.eq ?_
    unfold m_law_same_b
    simp only [w_fin, w_ifO, w_ok, w_up, w_rt]
    rw [if_neg (show ¬ isNone (.int a) = true from fun h => nomatch h)]
    rw [show isI isInt (.int a) = .ok true from rfl, w_ok, if_pos rfl]
    simp only [w_to, w_andR, w_ok, w_bind]
    rw [show isI isBool (.int a) = .ok false from rfl, w_ok]
    rw [show eqD (.int a) (.int a) = .ok (a == a) from rfl]
    simp
  | n + 1, .lst l, h => by
    have hl : l.length ≤ 1000 := h.1
    have e0 : isNone (.lst l) = false := rfl
    have e1 : isI isInt (.lst l) = .ok false := rfl
    have e2 : isI isTup (.lst l) = .ok false := rfl
    have e3 : isI isLst (.lst l) = .ok true := rfl
    have e4 : lenD (.lst l) = .ok (l.length : Int) := rfl
    have e5 : range1 (l.length : Int) = .ok ((List.range l.length).map fun k : Nat => (k : Int)) := range1_k (by omega)
    rw [e_law_same]
    refine Res.W.eq ?_
    unfold m_law_same_b
    rw [e0, e1, e2, e3, e4]
    simp only [w_fin, w_ifO, w_ok, w_up, w_rt, w_seq, w_orR, w_bind, w_nx, w_to]
    rw [if_neg (by decide), if_neg (by decide), if_neg (by decide), if_neg (by decide), if_neg (by simp), e5, w_ok]
    refine w_for (I := fun _ _ => True) (fun k x s hk _ => ?_) trivial fun s _ => ?_
    · obtain ⟨rfl, hkl⟩ := range_get hk
      have hg : l[k]? = some l[k] := List.getElem?_eq_getElem hkl
      show (m_law_same_l1 (m_law_same (n + 1)) (.lst l) (.lst l) (k : Int)).W _ _ _ _ _
      unfold m_law_same_l1
      rw [show atD (.lst l) (k : Int) = .ok l[k] from at_k hg]
      simp only [w_ifO, w_bind, w_calm, w_ok]
      rw [same_ok n _ (h.2 _ (List.getElem_mem hkl))]
      simp only [w_ok]
      rw [if_neg (by decide)]
      trivial
    · trivial
  | 0, .lst l, h => h.elim
  | n, .non, h => by cases n <;> exact h.elim
  | n, .bl _, h => by cases n <;> exact h.elim
  | n, .str _, h => by cases n <;> exact h.elim
  | n, .tup _, h => by cases n <;> exact h.elim
  | n, .ins _ _, h => by cases n <;> exact h.elim
theorem nice_up : ∀ {n : Nat} {d : Dy}, Nice n d → Nice (n + 1) d
  | n, .int a, _ => trivial
  | n + 1, .lst l, h => ⟨h.1, fun d hd => nice_up (h.2 d hd)⟩
  | 0, .lst l, h => h.elim
  | n, .non, h => by cases n <;> exact h.elim
  | n, .bl _, h => by cases n <;> exact h.elim
  | n, .str _, h => by cases n <;> exact h.elim
  | n, .tup _, h => by cases n <;> exact h.elim
  | n, .ins _ _, h => by cases n <;> exact h.elim
theorem nice_int (a : Int) : Nice 7 (dy a) := trivial
theorem nice_rows {l : List (List Int)} (h1 : l.length ≤ 12) (h2 : ∀ r ∈ l, r.length ≤ 12) : Nice 7 (dy l) := by
  show (l.map dy).length ≤ 1000 ∧ ∀ d ∈ l.map dy, Nice 6 d
  refine ⟨by rw [List.length_map]; omega, fun d hd => ?_⟩
  obtain ⟨r, hr, rfl⟩ := List.mem_map.mp hd
  show (r.map dy).length ≤ 1000 ∧ ∀ d ∈ r.map dy, Nice 5 d
  refine ⟨by rw [List.length_map]; have := h2 r hr; omega, fun d hd => ?_⟩
  obtain ⟨x, hx, rfl⟩ := List.mem_map.mp hd
  trivial
/-! what the book's maker tells, as the law notes it -/
theorem plain_int (a : Int) : m_law_plain (.int a) = .ok (.int a) := by
  rw [e_law_plain]
  refine Res.W.eq ?_
  unfold m_law_plain_b
  simp only [w_fin, w_ifO, w_andR, w_bind, w_up, w_rt]
  rw [show isI isInt (.int a) = .ok true from rfl, show isI isBool (.int a) = .ok false from rfl]
  simp only [w_ok]
  rw [if_pos trivial, if_pos (by decide)]
  trivial
theorem isX_k {C D : String} (h : C ∈ ERRS) {l : List Dy} : isX ERRS D (C, l) = .ok (C == D) := if_pos h
inductive Ans : List Dy → Res Book → List Dy → Prop
  | same (d : List Dy) (z : Xn) : Ans d (.ex z) d
  | told (d : List Dy) (b : Book) : Ans d (.ok b) [dy (("told" : Str) : Str), dy b]
theorem ask_ok {due : List Dy} {r : Res Book} (hr : m_Book_from_start ⟨⟩ sights xs = r) (hs : sights.length ≤ 1000) (h : Agr due r) : ∃ a, m_law_ask sights xs = .ok a ∧ Ans due r a := by
  refine Res.W.ex_ok ?_
  rw [e_law_ask]
  unfold m_law_ask_b
  simp only [w_fin, w_to, w_ok]
  rw [mapP_k (by omega), w_ok, List.map_id', w_seq, w_try]
  simp only [w_to, w_bind, w_exG]
  rw [hr]
  cases h with
  | ok b L O hb =>
    simp only [w_ok, w_nx]
    show (ifO _ _ _).W _ _ _ _ _
    rw [w_ifO, w_ok, if_neg (by simp)]
    simp only [w_to, w_ok, w_rt]
    exact .told _ _
  | bb =>
    simp only [w_ex]
    refine ⟨rfl, by decide, ?_⟩
    rw [isX_k (by decide), isX_k (by decide), isX_k (by decide), isX_k (by decide), isX_k (by decide)]
    simp only [w_ok, w_to, w_bind]
    rw [app_k (by simp), w_ok]
    simp only [w_seq, w_ifO, w_ok]
    rw [if_pos (by decide)]
    simp only [w_nx, w_seq, w_ifO, w_ok, w_to]
    rw [if_neg (by decide), if_neg (by decide), if_neg (by simp)]
    exact .same _ _
  | br =>
    simp only [w_ex]
    refine ⟨rfl, by decide, ?_⟩
    rw [isX_k (by decide), isX_k (by decide), isX_k (by decide), isX_k (by decide), isX_k (by decide)]
    simp only [w_ok, w_to, w_bind]
    rw [app_k (by simp), w_ok]
    simp only [w_seq, w_ifO, w_ok]
    rw [if_neg (by decide)]
    simp only [w_nx, w_seq, w_ifO, w_ok, w_to]
    rw [if_pos (by decide), if_neg (by decide), if_neg (by simp)]
    exact .same _ _
  | bo p w =>
    simp only [w_ex]
    refine ⟨rfl, by decide, ?_⟩
    rw [isX_k (by decide), isX_k (by decide), isX_k (by decide), isX_k (by decide), isX_k (by decide)]
    simp only [w_ok, w_to, w_bind]
    rw [app_k (by simp), w_ok]
    simp only [w_seq, w_ifO, w_ok]
    rw [if_neg (by decide)]
    simp only [w_nx, w_seq, w_ifO, w_ok, w_to]
    rw [if_neg (by decide), if_pos (by decide)]
    rw [show xf XF_person ("BadOdds", [.int p, .int w]) = .ok (.int p) from rfl, show xf XF_world ("BadOdds", [.int p, .int w]) = .ok (.int w) from rfl]
    simp only [w_bind, w_calm, w_ok, plain_int]
    rw [if_neg (by simp)]
    exact .same _ _
/-! the two agree -/
theorem fl_s {n : Nat} {s : Str} (h : s.cps.all (· < 0x110000) = true) : (Dy.str s).flat n = true := by cases n <;> exact h
theorem fl_i {n : Nat} {a : Int} : (Dy.int a).flat n = true := by cases n <;> rfl
theorem fl_c {n : Nat} {d : Dy} {l : List Dy} (h : d.flat n = true) (hl : Dy.flatL n l = true) : Dy.flatL n (d :: l) = true := by
  have e : Dy.flatL n (d :: l) = (Dy.flat n d && Dy.flatL n l) := by cases n <;> rfl
  rw [e, h, hl]
  rfl
theorem fl_n {n : Nat} : Dy.flatL n [] = true := by cases n <;> rfl
theorem eqD_s {a b : Str} (ha : a.cps.all (· < 0x110000) = true) (hb : b.cps.all (· < 0x110000) = true) : eqD (.str a) (.str b) = .ok (a == b) := by
  unfold eqD
  rw [fl_s ha, fl_s hb]
  rfl
theorem eqD_l {l m : List Dy} (hl : Dy.flatL 29 l = true) (hm : Dy.flatL 29 m = true) : eqD (.lst l) (.lst m) = .ok (Dy.eqvL l m) := by
  unfold eqD
  rw [show Dy.flat 30 (.lst l) = true from hl, show Dy.flat 30 (.lst m) = true from hm]
  rfl
theorem eq_bb : eqD sBadBook (dy (("book" : Str) : Str)) = .ok false := (eqD_s (by decide +kernel) (by decide +kernel)).trans (congrArg Res.ok (by decide +kernel))
theorem eq_br : eqD sBadRow (dy (("book" : Str) : Str)) = .ok false := (eqD_s (by decide +kernel) (by decide +kernel)).trans (congrArg Res.ok (by decide +kernel))
theorem eq_bo : eqD sBadOdds (dy (("book" : Str) : Str)) = .ok false := (eqD_s (by decide +kernel) (by decide +kernel)).trans (congrArg Res.ok (by decide +kernel))
theorem eq_bk : eqD sBook (dy (("book" : Str) : Str)) = .ok true := (eqD_s (by decide +kernel) (by decide +kernel)).trans (congrArg Res.ok (by decide +kernel))
theorem eq_told : eqD (dy (("told" : Str) : Str)) (dy (("told" : Str) : Str)) = .ok true := (eqD_s (by decide +kernel) (by decide +kernel)).trans (congrArg Res.ok (by decide +kernel))
theorem eq_bbl : eqD (dy [sBadBook]) (dy [sBadBook]) = .ok true := (eqD_l (fl_c (fl_s (by decide +kernel)) fl_n) (fl_c (fl_s (by decide +kernel)) fl_n)).trans (congrArg Res.ok (by decide +kernel))
theorem eq_brl : eqD (dy [sBadRow]) (dy [sBadRow]) = .ok true := (eqD_l (fl_c (fl_s (by decide +kernel)) fl_n) (fl_c (fl_s (by decide +kernel)) fl_n)).trans (congrArg Res.ok (by decide +kernel))
theorem eq_bol (p w : Int) : eqD (dy [sBadOdds, dy p, dy w]) (dy [sBadOdds, dy p, dy w]) = .ok true := by
  have h := fl_c (n := 29) (fl_s (s := "BadOdds") (by decide +kernel)) (fl_c (fl_i (a := p)) (fl_c (fl_i (a := w)) fl_n))
  have e := eqD_l h h
  have e2 : Dy.eqvL [Dy.str "BadOdds", .int p, .int w] [Dy.str "BadOdds", .int p, .int w] = true := by
    show ((("BadOdds" : Str) == "BadOdds") && ((p == p) && ((w == w) && true))) = true
    simp
  rw [e2] at e
  exact e
theorem agrees_ok (hst : StOk xs) (hs : sights.length ≤ 1000) : m_law_agrees sights xs = .ok true := by
  obtain ⟨due, e1, hag⟩ := agr (sights := sights) hst
  obtain ⟨a, e2, han⟩ := ask_ok rfl hs hag
  rw [e_law_agrees]
  refine Res.W.eq ?_
  unfold m_law_agrees_b
  rw [e1, e2]
  generalize m_Book_from_start ⟨⟩ sights xs = r at hag han
  simp only [w_fin, w_to, w_calm, w_ok]
  have hsame : ∀ d : List Dy, (∃ t, d = t) → True := fun _ _ => trivial
  cases hag with
  | bb =>
    cases han
    rw [show at_ [sBadBook] 0 = .ok sBadBook from rfl, Res.bind_ok, eq_bb, eq_bbl]
    simp only [w_ifO, w_bind, w_ok, w_up, w_to, w_rt]
    rw [if_pos (by decide)]
    trivial
  | br =>
    cases han
    rw [show at_ [sBadRow] 0 = .ok sBadRow from rfl, Res.bind_ok, eq_br, eq_brl]
    simp only [w_ifO, w_bind, w_ok, w_up, w_to, w_rt]
    rw [if_pos (by decide)]
    trivial
  | bo p w =>
    cases han
    rw [show at_ [sBadOdds, dy p, dy w] 0 = .ok sBadOdds from rfl, Res.bind_ok, eq_bo, eq_bol]
    simp only [w_ifO, w_bind, w_ok, w_up, w_to, w_rt]
    rw [if_pos (by decide)]
    trivial
  | ok b L O hb =>
    cases han
    obtain ⟨r0, hr0, hbw⟩ := hb.w
    have eO : (dy (O.map dy : List Dy) : Dy) = dy O := by
      show Dy.lst ((O.map dy).map id) = _
      rw [List.map_id]
      rfl
    rw [eO]
    have a0 : at_ [sBook, dy L, dy O] 0 = .ok sBook := rfl
    have a1 : at_ [dy (("told" : Str) : Str), dy b] 0 = .ok (dy (("told" : Str) : Str)) := rfl
    have a2 : at_ [dy (("told" : Str) : Str), dy b] 1 = .ok (dy b) := rfl
    have a3 : at_ [sBook, dy L, dy O] 1 = .ok (dy L) := rfl
    have a4 : at_ [sBook, dy L, dy O] 2 = .ok (dy O) := rfl
    have eC : isC "Book" (dy b) = .ok true := by
      show (if "Book" = "Book" then Res.ok true else Res.no : Res Bool) = _
      exact if_pos rfl
    have s1 := same_ok 7 _ (nice_int (r0.length : Int))
    have s2 := same_ok 7 _ (nice_int (L.length : Int))
    have s3 := same_ok 7 _ (nice_rows hb.ll hb.lr)
    have s4 := same_ok 7 _ (nice_rows hb.ol hb.or_)
    have e3 : atD (dy L) 0 = .ok (dy r0) := at_k (k := 0) (by rw [List.getElem?_map, hr0]; rfl)
    have e4 : lenD (dy r0) = .ok (r0.length : Int) := by
      show Res.ok ((r0.map dy).length : Int) = _
      rw [List.length_map]
    have e5 : lenD (dy L) = .ok (L.length : Int) := by
      show Res.ok ((L.map dy).length : Int) = _
      rw [List.length_map]
    have eS : m_Book_sights b = .ok L := by
      rw [e_Book_sights]
      refine Res.W.eq ?_
      unfold m_Book_sights_b
      rw [hb.l, mapP_k (by have := hb.ll; omega), List.map_id']
      simp only [w_fin, w_to, w_ok, w_rt]
    have eD : m_Book_odds b = .ok O := by
      rw [e_Book_odds]
      refine Res.W.eq ?_
      unfold m_Book_odds_b
      rw [hb.o, mapP_k (by have := hb.ol; omega), List.map_id']
      simp only [w_fin, w_to, w_ok, w_rt]
    simp only [w_ifO, w_bind, w_ok, w_up, w_to, w_rt, w_orR, w_andR, w_calm, a0, a1, a2, a3, a4, eq_bk, eq_told, eC, cast_dy, e3, e4, e5, eS, eD, hbw, hb.p]
    simp [s1, s2, s3, s4]
end
end FB
set_option linter.all false
set_option maxRecDepth 100000
set_option maxHeartbeats 4000000
set_option exponentiation.threshold 20000
namespace FB
open FS PySem
open Py (dy un)
theorem sz {sizes : List Int} (h : sizes.all (fun s => decide (0 < s ∧ s < 1000000)) = true) : ∀ s ∈ sizes, 0 < s ∧ s.natAbs < 2 ^ 9000 := fun s hs => by
  have := of_decide_eq_true (List.all_eq_true.mp h s hs)
  refine ⟨this.1, Nat.lt_of_lt_of_le (show s.natAbs < 2 ^ 20 by omega) (Nat.pow_le_pow_right (by decide) (by decide))⟩
theorem rep_map {n : Nat} {s : Int} : (((List.range n).map fun k : Nat => (k : Int)).map fun _ : Int => s) = List.replicate n s := by
  rw [List.map_map]
  refine List.eq_replicate_iff.mpr ⟨by rw [List.length_map, List.length_range], fun b hb => ?_⟩
  obtain ⟨_, _, rfl⟩ := List.mem_map.mp hb
  rfl
/-- draws of n digits below s -/
theorem drawsR (sc : Scr) {k : Int} (hk : 0 ≤ k) {s : Int} {n : Nat} (hs : 0 < s ∧ s < 1000000) (hn : n ≤ 1000) : ∃ c l, m_law_cell sc k = .ok c ∧ m_law_draws c (List.replicate n s) = .ok l ∧ l.length = n ∧ ∀ x ∈ l, 0 ≤ x ∧ x < s := by
  obtain ⟨c, l, e1, e2, h⟩ := drawsC sc hk (sizes := List.replicate n s) (fun y hy => by
    rw [List.eq_of_mem_replicate hy]
    refine ⟨hs.1, Nat.lt_of_lt_of_le (show s.natAbs < 2 ^ 20 by omega) (Nat.pow_le_pow_right (by decide) (by decide))⟩) (by rw [List.length_replicate]; exact hn)
  exact ⟨c, l, e1, e2, h.rep.1, h.rep.2⟩
theorem sights_ok (sc : Scr) : ∃ n sights, m_law_sights sc = .ok sights ∧ Rows n sights := by
  suffices h : (m_law_sights sc).W (fun s => ∃ n, Rows n s) fun _ => False by
    obtain ⟨s, e, n, hs⟩ := h.ex_ok
    exact ⟨n, s, e, hs⟩
  rw [e_law_sights]
  unfold m_law_sights_b
  obtain ⟨c, l, e1, e2, hd⟩ := drawsC sc (k := 0) (by omega) (sizes := [5, 3, 8, 12, 6]) (sz (by decide)) (by decide)
  rw [e1]
  simp only [w_fin, w_to, w_calm, w_bind, w_ok, w_seq, w_ifO, w_nx]
  rw [e2, w_ok]
  match l, hd with
  | [a0, a1, a2, a3, a4], ⟨h0, h1, h2, h3, h4, _⟩ =>
    rw [show at_ [a0, a1, a2, a3, a4] 0 = .ok a0 from rfl, show at_ [a0, a1, a2, a3, a4] 1 = .ok a1 from rfl, show at_ [a0, a1, a2, a3, a4] 2 = .ok a2 from rfl, show at_ [a0, a1, a2, a3, a4] 3 = .ok a3 from rfl, show at_ [a0, a1, a2, a3, a4] 4 = .ok a4 from rfl]
    simp only [w_ok]
    have go : ∀ w p : Int, 1 ≤ w ∧ w ≤ 12 → 1 ≤ p ∧ p ≤ 6 → ((range1 p).to fun l => forO (fun (person' : Int) => up1 (m_law_sights_l1 sc w person')) l ([] : List (List Int)) : Out (List (List Int)) Unit (List (List Int))).W (fun s => (up1 (fun (sights' : List (List Int)) => (.rt sights' : Out Unit Unit (List (List Int)))) s).W (fun _ => False) (fun s => ∃ n, Rows n s) (fun _ => False) (fun _ => False) (fun _ => False)) (fun s => ∃ n, Rows n s) (fun _ => False) (fun _ => False) (fun _ => False) := fun w p hw hp => by
      obtain ⟨n, rfl⟩ : ∃ n : Nat, w = n := ⟨w.toNat, by omega⟩
      obtain ⟨q, rfl⟩ : ∃ q : Nat, p = q := ⟨p.toNat, by omega⟩
      rw [w_to, range1_k (n := q) (by omega), w_ok]
      refine w_for (I := fun k s => s.length = k ∧ ∀ r ∈ s, r.length = n) (fun k x s hk hi => ?_) ⟨rfl, fun r hr => nomatch hr⟩ fun s hi => ?_
      · obtain ⟨rfl, hkl⟩ := range_get hk
        show (m_law_sights_l1 sc n (k : Int) s).W _ _ _ _ _
        unfold m_law_sights_l1
        obtain ⟨c, l, e1, e2, hl, hb⟩ := drawsR sc (k := 1 + (k : Int)) (by omega) (s := 12) (n := n + 2) (by omega) (by omega)
        have er : range1 ((n : Int) + 2) = .ok ((List.range (n + 2)).map fun k : Nat => (k : Int)) := range1_k (n := n + 2) (by omega) (by omega)
        have er2 : range1 (n : Int) = .ok ((List.range n).map fun k : Nat => (k : Int)) := range1_k (n := n) (by omega)
        simp only [w_to, w_calm, w_bind]
        rw [e1, w_ok, er, w_ok, mapP_k (by rw [range_len]; omega)]
        simp only [w_ok]
        rw [rep_map, e2, w_ok]
        have hg : ∀ j : Nat, j < n + 2 → at_ l (j : Int) = .ok (l.getD j 0) ∧ 0 ≤ l.getD j 0 ∧ l.getD j 0 < 12 := fun j hj => by
          have hg : l[j]? = some (l[j]'(by omega)) := List.getElem?_eq_getElem (by omega)
          have e : l.getD j 0 = l[j]'(by omega) := by rw [List.getD_eq_getElem?_getD, hg]; rfl
          rw [e]
          exact ⟨at_k hg, hb _ (List.getElem_mem _)⟩
        have e0 := (hg 0 (by omega)).1
        have e0' : at_ l 0 = .ok (l.getD 0 0) := e0
        have e1' : at_ l 1 = .ok (l.getD 1 0) := (hg 1 (by omega)).1
        rw [e0', w_ok, fmod_k (by omega)]
        simp only [w_ok]
        rw [er2, w_ok]
        have hm : 0 < 1 + l.getD 0 0 % (n : Int) := by have := Int.emod_nonneg (l.getD 0 0) (show (n : Int) ≠ 0 by omega); omega
        rw [mapL_k (g := fun w' => (l.getD (2 + w').toNat 0 % (1 + l.getD 0 0 % (n : Int)) + l.getD 1 0) % 12) (fun w' hw' => ?_) (by rw [range_len]; omega)]
        · simp only [w_ok]
          rw [app_k (by omega)]
          simp only [w_ok, w_nx]
          refine ⟨by rw [List.length_append, hi.1]; rfl, fun r hr => ?_⟩
          rcases List.mem_append.mp hr with hr | hr
          · exact hi.2 r hr
          · rw [List.mem_singleton.mp hr, List.length_map, range_len]
        · obtain ⟨j, hj, rfl⟩ := List.mem_map.mp hw'
          rw [List.mem_range] at hj
          have ej : at_ l (2 + (j : Int)) = .ok (l.getD (2 + j) 0) := by
            have := (hg (2 + j) (by omega)).1
            rw [show ((2 + j : Nat) : Int) = 2 + (j : Int) by omega] at this
            exact this
          rw [ej, Res.bind_ok, fmod_k hm, Res.bind_ok, e1', Res.bind_ok, Res.bind_ok, show (2 + (j : Int)).toNat = 2 + j by omega]
      · rw [range_len] at hi
        exact ⟨n, by omega, by omega, by omega, by omega, hi.2⟩
    split
    · have g := go (a3 + 1) (a4 + 1) (by omega) (by omega)
      rw [w_to] at g
      exact g
    · have g := go (a0 + 1) (a1 + 1) (by omega) (by omega)
      rw [w_to] at g
      exact g
/-! the start's counts -/
structure Cnt (n : Nat) (cs : List Int) : Prop where
  len : cs.length = n
  nn : ∀ x ∈ cs, 0 ≤ x
  bd : ∀ x ∈ cs, x ≤ 10 ^ 40 + 1
theorem Cnt.set {n : Nat} {cs : List Int} (h : Cnt n cs) {k : Nat} {x : Int} (h0 : 0 ≤ x) (h1 : x ≤ 10 ^ 40 + 1) : Cnt n (cs.set k x) := ⟨by rw [List.length_set, h.len], fun y hy => by
  rcases List.mem_or_eq_of_mem_set hy with hy | rfl
  · exact h.nn y hy
  · exact h0, fun y hy => by
  rcases List.mem_or_eq_of_mem_set hy with hy | rfl
  · exact h.bd y hy
  · exact h1⟩
theorem set_I {α : Type} {l : List α} {i : Int} {x : α} (h0 : 0 ≤ i) (h : i < l.length) : setAt l i x = .ok (l.set i.toNat x) := set_k (by omega) (by omega)
theorem at_I {l : List Int} {i : Int} (h0 : 0 ≤ i) (h : i < l.length) : at_ l i = .ok (l.getD i.toNat 0) := by
  have hg : l[i.toNat]? = some (l[i.toNat]'(by omega)) := List.getElem?_eq_getElem (by omega)
  have e : l.getD i.toNat 0 = l[i.toNat]'(by omega) := by rw [List.getD_eq_getElem?_getD, hg]; rfl
  rw [e]
  exact at_k hg (by omega)
theorem counts_of (sc : Scr) {n : Nat} {sights : List (List Int)} (h : Rows n sights) : ∃ cs, m_law_counts sc sights = .ok cs ∧ Cnt n cs ∧ 0 < cs.sum := by
  refine Res.W.ex_ok ?_
  rw [e_law_counts]
  unfold m_law_counts_b
  have h0 := h.at (p := 0) (by have := h.p1; omega)
  obtain ⟨c, l, e1, e2, hd⟩ := drawsC sc (k := 7) (by omega) (sizes := [3, 6, 6, 12, 2, 9]) (sz (by decide)) (by decide)
  obtain ⟨c8, l8, f1, f2, f3, f4⟩ := drawsR sc (k := 8) (by omega) (s := 9) (n := n) (by omega) (by have := h.n2; omega)
  have hn1 := h.n1
  have hn2 := h.n2
  have hp1 := h.p1
  match l, hd with
  | [a0, a1, a2, a3, a4, a5], ⟨h0', h1, h2, h3, h4, h5, _⟩ =>
    have er : range1 (n : Int) = .ok ((List.range n).map fun k : Nat => (k : Int)) := range1_k (n := n) (by omega)
    have g0 : at_ [a0, a1, a2, a3, a4, a5] 0 = .ok a0 := rfl
    have g1 : at_ [a0, a1, a2, a3, a4, a5] 1 = .ok a1 := rfl
    have g2 : at_ [a0, a1, a2, a3, a4, a5] 2 = .ok a2 := rfl
    have g3 : at_ [a0, a1, a2, a3, a4, a5] 3 = .ok a3 := rfl
    have g4 : at_ [a0, a1, a2, a3, a4, a5] 4 = .ok a4 := rfl
    have g5 : at_ [a0, a1, a2, a3, a4, a5] 5 = .ok a5 := rfl
    have hr0 : 0 ≤ a2 % (sights.length : Int) ∧ a2 % (sights.length : Int) < sights.length := ⟨Int.emod_nonneg _ (by omega), Int.emod_lt_of_pos _ (by omega)⟩
    have hw0 : 0 ≤ a3 % (n : Int) ∧ a3 % (n : Int) < n := ⟨Int.emod_nonneg _ (by omega), Int.emod_lt_of_pos _ (by omega)⟩
    have hrow := h.at (p := (a2 % (sights.length : Int)).toNat) (by omega)
    have e3 : at_ sights (a2 % (sights.length : Int)) = .ok (sights.getD (a2 % (sights.length : Int)).toNat []) := at_k hrow.1 (by omega)
    generalize hR : sights.getD (a2 % (sights.length : Int)).toNat [] = row at e3 hrow
    generalize hW : a3 % (n : Int) = wd at hw0
    simp only [w_fin, w_to, w_bind, w_calm]
    rw [at_k (k := 0) h0.1, w_ok, w_ok, h0.2, e1, w_ok, w_ok]
    simp only []
    rw [e2, w_ok, g2, w_ok, fmod_k (by omega), w_ok, e3, w_ok, g3, w_ok, fmod_k (by omega), w_ok, hW, f1, w_ok, er, w_ok, mapP_k (by rw [range_len]; omega)]
    simp only [w_ok]
    rw [rep_map, f2, w_ok, mapP_k (by omega), w_ok]
    have p40' := p40
    have c0 : ∀ x ∈ l8.map (fun n' => n' + 1), 1 ≤ x ∧ x ≤ 9 := fun x hx => by
      obtain ⟨y, hy, rfl⟩ := List.mem_map.mp hx
      have := f4 y hy
      omega
    have c0l : (l8.map (fun n' => n' + 1)).length = n := by rw [List.length_map, f3]
    generalize l8.map (fun n' => n' + 1) = cs0 at c0 c0l
    rw [w_seq]
    refine w_mid (fun cs => cs.length = n ∧ ∀ x ∈ cs, 0 ≤ x ∧ x ≤ 9) ?_ fun cs1 h1c => ?_
    · rw [w_ifO, w_bind, g0, w_ok, w_ok]
      split
      · rw [w_to, w_exG, mapP_k (by omega), w_ok, w_nx]
        refine ⟨by rw [List.length_map, c0l], fun x hx => ?_⟩
        obtain ⟨y, hy, rfl⟩ := List.mem_map.mp hx
        have := c0 y hy
        omega
      · rw [w_nx]
        exact ⟨c0l, fun x hx => by have := c0 x hx; omega⟩
    show Out.W (Out.seq _ _) _ _ _ _ _
    rw [w_seq]
    refine w_mid (Cnt n) ?_ fun cs2 h2c => ?_
    · rw [w_ifO, w_bind, g1, w_ok, w_ok]
      split
      · have em : mapL cs1 (fun n' => mul n' 1000000000000000000000000000000000000000) = .ok (cs1.map fun n' => n' * 1000000000000000000000000000000000000000) := mapL_k (g := fun n' => n' * 1000000000000000000000000000000000000000) (fun x hx => mul_k 10 200 (by have := h1c.2 x hx; omega) (by decide)) (by omega)
        rw [w_to, w_exG, em, w_ok, w_nx]
        refine ⟨by rw [List.length_map, h1c.1], fun x hx => ?_, fun x hx => ?_⟩
        · obtain ⟨y, hy, rfl⟩ := List.mem_map.mp hx
          have := h1c.2 y hy
          omega
        · obtain ⟨y, hy, rfl⟩ := List.mem_map.mp hx
          have := h1c.2 y hy
          omega
      · rw [w_ifO, w_bind, w_ok, w_ok]
        split
        · rename_i hlt
          have hlt := of_decide_eq_true hlt
          rw [w_seq, w_to]
          try rw [er]
          rw [w_ok]
          refine w_for (I := fun _ s => Cnt n s) (fun k x s hk hi => ?_) ⟨h1c.1, fun x hx => (h1c.2 x hx).1, fun x hx => by have := h1c.2 x hx; omega⟩ fun s hi => hi
          obtain ⟨rfl, hkl⟩ := range_get hk
          show (m_law_counts_l1 _ _ _ (k : Int) s).W _ _ _ _ _
          unfold m_law_counts_l1
          rw [at_I (l := row) (i := (k : Int)) (by omega) (by rw [hrow.2]; omega), at_I (l := row) (i := wd) hw0.1 (by rw [hrow.2]; omega), g1]
          simp only [w_ifO, w_bind, w_ok, w_to, w_nx]
          split
          · rw [set_I (by omega) (by rw [hi.len]; omega), w_ok]
            exact hi.set h1.1 (by omega)
          · exact hi
        · rw [w_nx]
          exact ⟨h1c.1, fun x hx => (h1c.2 x hx).1, fun x hx => by have := h1c.2 x hx; omega⟩
    show Out.W (Out.seq _ _) _ _ _ _ _
    rw [w_seq]
    refine w_mid (Cnt n) ?_ fun cs3 h3c => ?_
    · rw [w_ifO, w_bind, g1, w_ok, w_ok]
      split
      · rw [w_to, w_bind, g4, w_ok, w_ok, w_to, set_I hw0.1 (by rw [h2c.len]; omega), w_ok, w_nx]
        exact h2c.set (by omega) (by omega)
      · exact h2c
    show Out.W (Out.seq _ _) _ _ _ _ _
    rw [w_seq]
    refine w_mid (fun cs => Cnt n cs ∧ 0 < cs.sum) ?_ fun cs4 h4c => ?_
    · rw [w_ifO, w_ok]
      have hs0 : 0 ≤ cs3.sum := by
        cases cs3 with
        | nil => exact Int.le_refl _
        | cons y l => have := le_sum h3c.nn (List.mem_cons_self (a := y) (l := l)); have := h3c.nn y List.mem_cons_self; omega
      split
      · rw [w_to, w_bind, g5, w_ok, w_ok, w_to, set_I hw0.1 (by rw [h3c.len]; omega), w_ok, w_nx]
        have hc := h3c.set (k := wd.toNat) (x := a5 + 1) (by omega) (by omega)
        refine ⟨hc, ?_⟩
        have : a5 + 1 ∈ cs3.set wd.toNat (a5 + 1) := List.mem_set (by rw [h3c.len]; omega) _
        have := le_sum hc.nn this
        omega
      · rename_i hne
        have hne : ¬ cs3.sum = 0 := fun q => hne (decide_eq_true q)
        exact ⟨h3c, by omega⟩
    exact h4c
end FB
set_option linter.all false
set_option maxRecDepth 100000
set_option maxHeartbeats 4000000
set_option exponentiation.threshold 20000
namespace FB
open FS PySem
open Py (dy un)
/-- numbers whose denominators divide D -/
structure StD (D : Nat) (xs : List Num) : Prop where
  len : xs.length ≤ 20
  ok : ∀ x ∈ xs, NumOk 400 x ∧ x.2.natAbs ∣ D
theorem lcmF_dvd {D : Nat} : ∀ (xs : List Num) (f : Nat), f ∣ D → (∀ x ∈ xs, x.2.natAbs ∣ D) → xs.foldl (fun f x => Nat.lcm f x.2.natAbs) f ∣ D
  | [], f, hf, _ => hf
  | x :: xs, f, hf, h => by
    rw [List.foldl_cons]
    exact lcmF_dvd xs _ (Nat.lcm_dvd hf (h x List.mem_cons_self)) fun y hy => h y (List.mem_cons_of_mem _ hy)
theorem StD.ok_ {D : Nat} {xs : List Num} (h : StD D xs) (h0 : 0 < D) (hD : D < 2 ^ 1900) : StOk xs := ⟨fun x hx => (h.ok x hx).1, h.len, Nat.lt_of_le_of_lt (Nat.le_of_dvd h0 (lcmF_dvd xs 1 (Nat.one_dvd _) fun x hx => (h.ok x hx).2)) hD⟩
theorem StD.up {D E : Nat} {xs : List Num} (h : StD D xs) (hd : D ∣ E) : StD E xs := ⟨h.len, fun x hx => ⟨(h.ok x hx).1, Nat.dvd_trans (h.ok x hx).2 hd⟩⟩
theorem StD.set {D : Nat} {xs : List Num} (h : StD D xs) {k : Nat} {x : Num} (hx : NumOk 400 x) (hd : x.2.natAbs ∣ D) : StD D (xs.set k x) := ⟨by rw [List.length_set]; exact h.len, fun y hy => by
  rcases List.mem_or_eq_of_mem_set hy with hy | rfl
  · exact h.ok y hy
  · exact ⟨hx, hd⟩⟩
theorem mk_ok {n d : Int} (h : 0 < d) (hn : n.natAbs < 2 ^ 400) (hd : d.natAbs < 2 ^ 400) : NumOk 400 (mk n d) ∧ (mk n d).2.natAbs ∣ d.natAbs := by
  have g := mk_good (n := n) h hn (natAbs_lt h hd)
  refine ⟨⟨g.pos, g.up, lt_natAbs (by have := g.pos; omega) g.dn⟩, ?_⟩
  show (d / ((Nat.gcd n.natAbs d.natAbs : Nat) : Int)).natAbs ∣ _
  rw [natAbs_div (gcd_pos' h) (Nat.gcd_dvd_right _ _)]
  exact Nat.div_dvd_of_dvd (Nat.gcd_dvd_right _ _)
theorem sum_le : ∀ {l : List Int} {b : Int}, (∀ y ∈ l, y ≤ b) → l.sum ≤ l.length * b
  | [], b, _ => by simp
  | y :: l, b, h => by
    rw [List.sum_cons, List.length_cons]
    have h1 := h y List.mem_cons_self
    have h2 := sum_le (l := l) fun z hz => h z (List.mem_cons_of_mem _ hz)
    rw [show ((l.length + 1 : Nat) : Int) * b = l.length * b + b by rw [Int.natCast_add, Int.add_mul]; simp]
    omega
/-- the start out of its counts -/
theorem start_of {n : Nat} {cs : List Int} (h : Cnt n cs) (hn : n ≤ 12) (hs : 0 < cs.sum) : ∃ xs, mapL cs (fun n' => (m_law_ratio n' cs.sum).calm) = .ok xs ∧ StD cs.sum.natAbs xs ∧ xs.length = n ∧ cs.sum.natAbs < 2 ^ 140 := by
  have hb : cs.sum ≤ 12 * (10 ^ 40 + 1) := by
    have h1 := sum_le h.bd
    rw [h.len] at h1
    have h2 : (n : Int) * (10 ^ 40 + 1) ≤ 12 * (10 ^ 40 + 1) := Int.mul_le_mul_of_nonneg_right (by omega) (by decide)
    omega
  have hb2 : cs.sum.natAbs < 2 ^ 140 := by
    have : (12 : Int) * (10 ^ 40 + 1) < 2 ^ 140 := by decide
    have e : ((2 : Int) ^ 140) = ((2 ^ 140 : Nat) : Int) := by decide
    omega
  refine ⟨cs.map fun c => mk c cs.sum, ?_, ⟨by rw [List.length_map, h.len]; omega, fun x hx => ?_⟩, by rw [List.length_map, h.len], hb2⟩
  · refine mapL_k (g := fun c => mk c cs.sum) (fun c hc => ?_) (by rw [h.len]; omega)
    rw [lratio_ok hs (pow_up hb2 (by decide))]
    rfl
  · obtain ⟨c, hc, rfl⟩ := List.mem_map.mp hx
    have h1 := le_sum h.nn hc
    have h0 := h.nn c hc
    exact mk_ok hs (pow_up (show c.natAbs < 2 ^ 140 by omega) (by decide)) (pow_up hb2 (by decide))
end FB
set_option linter.all false
set_option maxRecDepth 100000
set_option maxHeartbeats 4000000
set_option exponentiation.threshold 20000
namespace FB
open FS PySem
open Py (dy un)
theorem at_N {xs : List Num} {i : Int} (h0 : 0 ≤ i) (h : i < xs.length) : ∃ x, at_ xs i = .ok x ∧ x ∈ xs := by
  have hg : xs[i.toNat]? = some (xs[i.toNat]'(by omega)) := List.getElem?_eq_getElem (by omega)
  exact ⟨_, at_k hg (by omega), List.getElem_mem _⟩
theorem at_NL {l : List (List Int)} {i : Int} (h0 : 0 ≤ i) (h : i < l.length) : ∃ x, at_ l i = .ok x ∧ x ∈ l := by
  have hg : l[i.toNat]? = some (l[i.toNat]'(by omega)) := List.getElem?_eq_getElem (by omega)
  exact ⟨_, at_k hg (by omega), List.getElem_mem _⟩
/-- rows that are spoiled: never more than there is room for -/
theorem spoil_sights_ok {n : Nat} {sights : List (List Int)} (h : Rows n sights) {d0 d1 d2 d3 d4 : Int} (hd0 : 0 ≤ d0 ∧ d0 < 7) (hd1 : 0 ≤ d1) (hd2 : 0 ≤ d2) (hd3 : 0 ≤ d3 ∧ d3 < 2) : ∃ s, m_law_spoil_sights sights [d0, d1, d2, d3, d4] = .ok s ∧ s.length ≤ 1000 := by
  refine Res.W.ex_ok ?_
  rw [e_law_spoil_sights]
  unfold m_law_spoil_sights_b
  have hn1 := h.n1
  have hn2 := h.n2
  have hp1 := h.p1
  have hp2 := h.p2
  have h0 := h.at (p := 0) (by omega)
  have g0 : at_ [d0, d1, d2, d3, d4] 0 = .ok d0 := rfl
  have g1 : at_ [d0, d1, d2, d3, d4] 1 = .ok d1 := rfl
  have g2 : at_ [d0, d1, d2, d3, d4] 2 = .ok d2 := rfl
  have g3 : at_ [d0, d1, d2, d3, d4] 3 = .ok d3 := rfl
  have hp0 : 0 ≤ d1 % (sights.length : Int) ∧ d1 % (sights.length : Int) < sights.length := ⟨Int.emod_nonneg _ (by omega), Int.emod_lt_of_pos _ (by omega)⟩
  have hw0 : 0 ≤ d2 % (n : Int) ∧ d2 % (n : Int) < n := ⟨Int.emod_nonneg _ (by omega), Int.emod_lt_of_pos _ (by omega)⟩
  have er : range1 (sights.length : Int) = .ok ((List.range sights.length).map fun k : Nat => (k : Int)) := range1_k (n := sights.length) (by omega)
  have s0 : at_ sights 0 = .ok (sights.getD 0 []) := at_k (k := 0) h0.1
  rw [g0, g1, g2, g3]
  simp only [w_made, w_to, w_bind, w_exG, w_ok]
  rw [fmod_k (by omega), w_ok, s0, w_ok, h0.2, fmod_k (by omega), w_ok]
  generalize d1 % (sights.length : Int) = p at hp0
  generalize d2 % (n : Int) = wd at hw0
  obtain ⟨row, er0, hrow⟩ := at_NL hp0.1 hp0.2
  have hrl := h.row row hrow
  simp only [w_ifO, w_bind, w_ok]
  split
  · simp only [w_to, w_ok, w_nx]
    exact Nat.zero_le _
  split
  · simp only [w_to, w_seq]
    rw [er, w_ok]
    refine w_for (I := fun _ s => s.length = sights.length) (fun k x s hk hi => ?_) rfl fun s hi => ?_
    · obtain ⟨rfl, hkl⟩ := range_get hk
      show (m_law_spoil_sights_l1 (k : Int) s).W _ _ _ _ _
      unfold m_law_spoil_sights_l1
      rw [set_I (by omega) (by omega)]
      simp only [w_to, w_ok, w_nx]
      rw [List.length_set, hi]
    · show s.length ≤ 1000
      omega
  split
  · simp only [w_to, w_seq, w_bind, w_exG, w_ok]
    have e6 : range1 (6 + d3 - (sights.length : Int)) = .ok ((List.range (6 + d3 - (sights.length : Int)).toNat).map fun k : Nat => (k : Int)) := range1_k (n := (6 + d3 - (sights.length : Int)).toNat) (by omega) (by omega)
    rw [e6, w_ok]
    refine w_for (I := fun k s => s.length = sights.length + k ∧ sights <+: s) (fun k x s hk hi => ?_) ⟨rfl, List.prefix_refl _⟩ fun s hi => ?_
    · obtain ⟨rfl, hkl⟩ := range_get hk
      show (m_law_spoil_sights_l2 p (k : Int) s).W _ _ _ _ _
      unfold m_law_spoil_sights_l2
      obtain ⟨r', e7, _⟩ := at_NL (l := s) hp0.1 (by omega)
      rw [e7]
      simp only [w_to, w_exG, w_ok]
      rw [app_k (by omega)]
      simp only [w_ok, w_nx]
      exact ⟨by rw [List.length_append, hi.1]; simp; omega, hi.2.trans (List.prefix_append _ _)⟩
    · rw [range_len] at hi
      show s.length ≤ 1000
      omega
  split
  · simp only [w_to, w_seq]
    rw [er, w_ok]
    refine w_for (I := fun _ s => s.length = sights.length ∧ ∀ r ∈ s, r.length ≤ 13) (fun k x s hk hi => ?_) ⟨rfl, fun r hr => by rw [h.row r hr]; omega⟩ fun s hi => ?_
    · obtain ⟨rfl, hkl⟩ := range_get hk
      show (m_law_spoil_sights_l3 _ (k : Int) s).W _ _ _ _ _
      unfold m_law_spoil_sights_l3
      obtain ⟨r', e7, hr'⟩ := at_NL (l := s) (i := (k : Int)) (by omega) (by omega)
      have hl' := hi.2 r' hr'
      rw [e7, g3]
      simp only [w_to, w_exG, w_ok, w_bind]
      have e8 : range1 (12 + d3 - (r'.length : Int)) = .ok ((List.range (12 + d3 - (r'.length : Int)).toNat).map fun k : Nat => (k : Int)) := by
        by_cases hneg : 12 + d3 - (r'.length : Int) < 0
        · have : 12 + d3 - (r'.length : Int) = -1 := by omega
          rw [this]
          rfl
        · exact range1_k (n := (12 + d3 - (r'.length : Int)).toNat) (by omega) (by omega)
      rw [e8, w_ok, mapP_k (by rw [range_len]; omega), w_ok, cat_k (by rw [List.length_map, range_len]; omega), w_ok, set_I (by omega) (by omega), w_ok, w_nx]
      refine ⟨by rw [List.length_set, hi.1], fun r hr => ?_⟩
      rcases List.mem_or_eq_of_mem_set hr with hr | rfl
      · exact hi.2 r hr
      · rw [List.length_append, List.length_map, range_len]
        omega
    · show s.length ≤ 1000
      omega
  split
  · rw [er0]
    simp only [w_to, w_exG, w_ok, w_bind]
    rw [cat_k (by simp; omega), w_ok, set_I hp0.1 hp0.2, w_ok, w_nx, List.length_set]
    omega
  split
  · rw [er0]
    simp only [w_to, w_exG, w_ok, w_bind]
    rw [show slFrom row 1 = .ok (row.drop 1) from rfl, w_ok, set_I hp0.1 hp0.2, w_ok, w_nx, List.length_set]
    omega
  · simp only [w_to, w_calm, w_bind, w_ok]
    obtain ⟨v, hv, _⟩ : ∃ v, at_ [(12 : Int), -1] d3 = .ok v ∧ True := ⟨_, at_I hd3.1 (by simp; omega), trivial⟩
    rw [hv, w_ok]
    unfold modAt
    simp only [w_bind]
    rw [er0, w_ok, set_I hw0.1 (by omega), w_ok, set_I hp0.1 hp0.2, w_ok, w_nx, List.length_set]
    omega
end FB
set_option linter.all false
set_option maxRecDepth 100000
set_option maxHeartbeats 4000000
set_option exponentiation.threshold 20000
namespace FB
open FS PySem
open Py (dy un)
theorem nab_add {a b : Int} {k : Nat} (ha : a.natAbs < 2 ^ k) (hb : b.natAbs < 2 ^ k) : (a + b).natAbs < 2 ^ (k + 1) := by
  rw [Nat.pow_succ]
  omega
/-- every number of the start has a small top and bottom -/
structure StB (D : Nat) (xs : List Num) : Prop where
  len : xs.length ≤ 19
  ok : ∀ x ∈ xs, 0 < x.2 ∧ x.1.natAbs < 2 ^ 150 ∧ x.2.natAbs < 2 ^ 150 ∧ x.2.natAbs ∣ D
theorem spoil_start_ok {S : Nat} {xs : List Num} (h : StB S xs) (hx : 1 ≤ xs.length) (hS : 0 < S) {d0 d1 d2 d3 : Int} (hd0 : 0 ≤ d0 ∧ d0 < 6) (hd1 : 0 ≤ d1) (hd2 : 0 ≤ d2) (hd3 : 0 ≤ d3 ∧ d3 < 2) : ∃ s, m_law_spoil_start xs [d0, d1, d2, d3] = .ok s ∧ StD (S * 10 ^ 30) s := by
  refine Res.W.ex_ok ?_
  rw [e_law_spoil_start]
  unfold m_law_spoil_start_b
  have hl := h.len
  have g0 : at_ [d0, d1, d2, d3] 0 = .ok d0 := rfl
  have g1 : at_ [d0, d1, d2, d3] 1 = .ok d1 := rfl
  have g2 : at_ [d0, d1, d2, d3] 2 = .ok d2 := rfl
  have g3 : at_ [d0, d1, d2, d3] 3 = .ok d3 := rfl
  have hp0 : 0 ≤ d1 % (xs.length : Int) ∧ d1 % (xs.length : Int) < xs.length := ⟨Int.emod_nonneg _ (by omega), Int.emod_lt_of_pos _ (by omega)⟩
  have hw0 : 0 ≤ d2 % (xs.length : Int) ∧ d2 % (xs.length : Int) < xs.length := ⟨Int.emod_nonneg _ (by omega), Int.emod_lt_of_pos _ (by omega)⟩
  have up : ∀ {k : Nat}, k ∣ S → k ∣ S * 10 ^ 30 := fun hk => Nat.dvd_mul_right_of_dvd hk _
  have base : StD (S * 10 ^ 30) xs := ⟨by omega, fun x hx => ⟨⟨(h.ok x hx).1, pow_up (h.ok x hx).2.1 (by decide), pow_up (h.ok x hx).2.2.1 (by decide)⟩, up (h.ok x hx).2.2.2⟩⟩
  rw [g0, g1, g2, g3]
  simp only [w_made, w_to, w_bind, w_exG, w_ok]
  rw [fmod_k (by omega), w_ok, fmod_k (by omega), w_ok]
  generalize d1 % (xs.length : Int) = p at hp0
  generalize d2 % (xs.length : Int) = q at hw0
  obtain ⟨x, ex, hxm⟩ := at_N hp0.1 hp0.2
  obtain ⟨b1, b2, b3, b4⟩ := h.ok x hxm
  have p30 : (1000000000000000000000000000000 : Int).natAbs < 2 ^ 100 := by decide
  simp only [w_ifO, w_bind, w_ok]
  split
  · rw [app_k (by omega)]
    simp only [w_to, w_ok, w_nx]
    refine ⟨by rw [List.length_append, List.length_singleton]; omega, fun y hy => ?_⟩
    rcases List.mem_append.mp hy with hy | hy
    · exact base.ok y hy
    · rw [List.mem_singleton.mp hy]
      exact ⟨⟨by decide, by decide, by decide⟩, Nat.one_dvd _⟩
  split
  · have e : popAt xs p = .ok (xs.eraseIdx p.toNat) := if_pos ⟨hp0.1, hp0.2, by omega⟩
    rw [e]
    simp only [w_to, w_ok, w_nx]
    refine ⟨by have := List.length_eraseIdx_le xs p.toNat; omega, fun y hy => base.ok y (List.mem_of_mem_eraseIdx hy)⟩
  split
  · rw [ex]
    simp only [w_to, w_exG, w_bind, w_ok, w_calm]
    have hm1 : (2 * d3 - 1).natAbs < 2 ^ 10 := by omega
    have u1 := wide_lt (x := x.1) b2 p30
    have u2 := wide_lt (x := 2 * d3 - 1) hm1 b3
    have u3 := wide_lt (x := x.2) b3 p30
    rw [mul_k 150 100 b2 p30, w_ok, mul_k 10 150 hm1 b3, w_ok, mul_k 150 100 b3 p30, w_ok]
    have hpos : 0 < x.2 * 1000000000000000000000000000000 := Int.mul_pos b1 (by decide)
    rw [lratio_ok hpos (pow_up u3 (by decide)), w_ok, set_I hp0.1 hp0.2, w_ok, w_nx]
    have hk := mk_ok (n := x.1 * 1000000000000000000000000000000 + (2 * d3 - 1) * x.2) hpos (pow_up (nab_add u1 (pow_up u2 (by decide))) (by decide)) (pow_up u3 (by decide))
    refine base.set hk.1 (Nat.dvd_trans hk.2 ?_)
    rw [Int.natAbs_mul]
    exact Nat.mul_dvd_mul b4 (Nat.dvd_refl _)
  split
  · rw [ex]
    simp only [w_to, w_exG, w_bind, w_ok]
    rw [set_I hp0.1 hp0.2, w_ok]
    have hk1 : NumOk 400 (x.1 - 2 * x.2, x.2) := ⟨b1, by
      have : (x.1 - 2 * x.2).natAbs < 2 ^ 152 := by
        have e : (2 : Nat) ^ 152 = 4 * 2 ^ 150 := by decide
        omega
      exact pow_up this (by decide), pow_up b3 (by decide)⟩
    have hB : ∀ y ∈ xs.set p.toNat (x.1 - 2 * x.2, x.2), 0 < y.2 ∧ y.1.natAbs < 2 ^ 152 ∧ y.2.natAbs < 2 ^ 150 ∧ y.2.natAbs ∣ S := fun y hy => by
      have e : (2 : Nat) ^ 152 = 4 * 2 ^ 150 := by decide
      rcases List.mem_or_eq_of_mem_set hy with hy | rfl
      · have := h.ok y hy
        exact ⟨this.1, by omega, this.2.2.1, this.2.2.2⟩
      · exact ⟨b1, by show (x.1 - 2 * x.2).natAbs < _; omega, b3, b4⟩
    have base2 := base.set (k := p.toNat) hk1 (up b4)
    have hlen : (xs.set p.toNat (x.1 - 2 * x.2, x.2)).length = xs.length := List.length_set
    generalize xs.set p.toNat (x.1 - 2 * x.2, x.2) = ys at hB base2 hlen
    obtain ⟨y, ey, hym⟩ := at_N (xs := ys) hw0.1 (by omega)
    obtain ⟨c1, c2, c3, c4⟩ := hB y hym
    rw [ey]
    simp only [w_ok]
    rw [set_I hw0.1 (by omega), w_ok, w_nx]
    refine base2.set ⟨c1, ?_, pow_up c3 (by decide)⟩ (up c4)
    have : (y.1 + 2 * y.2).natAbs < 2 ^ 154 := by
      have e : (2 : Nat) ^ 154 = 4 * 2 ^ 152 := by decide
      have e2 : (2 : Nat) ^ 152 = 4 * 2 ^ 150 := by decide
      omega
    exact pow_up this (by decide)
  · simp only [w_seq, w_to]
    have er : range1 (xs.length : Int) = .ok ((List.range xs.length).map fun k : Nat => (k : Int)) := range1_k (n := xs.length) (by omega)
    rw [er, w_ok]
    have e152 : (2 : Nat) ^ 152 = 4 * 2 ^ 150 := by decide
    refine w_for (I := fun k s => s.length = xs.length ∧ (∀ y ∈ s, 0 < y.2 ∧ y.1.natAbs < 2 ^ 152 ∧ y.2.natAbs < 2 ^ 150 ∧ y.2.natAbs ∣ S) ∧ ∀ (j : Nat) y, k ≤ j → s[j]? = some y → y.1.natAbs < 2 ^ 150) (fun k z s hk hi => ?_) ⟨rfl, fun y hy => by have := h.ok y hy; exact ⟨this.1, by omega, this.2.2.1, this.2.2.2⟩, fun j y _ hy => (h.ok y (List.mem_of_getElem? hy)).2.1⟩ fun s hi => ?_
    · obtain ⟨rfl, hkl⟩ := range_get hk
      show (m_law_spoil_start_l1 _ (k : Int) s).W _ _ _ _ _
      unfold m_law_spoil_start_l1
      have hg : s[k]? = some (s[k]'(by omega)) := List.getElem?_eq_getElem (by omega)
      have hz := hi.2.1 _ (List.mem_of_getElem? hg)
      have hz2 := hi.2.2 k _ (Nat.le_refl _) hg
      generalize (s[k]'(by omega)) = z at hg hz hz2
      rw [at_k hg, g3]
      simp only [w_to, w_exG, w_bind, w_ok, w_calm]
      have h2 : (z.1 * 2).natAbs < 2 ^ 152 := by omega
      rw [mul_k 152 10 h2 (by omega), w_ok]
      have h3 : (z.1 * 2 * d3).natAbs < 2 ^ 152 := by
        rcases (show d3 = 0 ∨ d3 = 1 by omega) with e | e <;> rw [e] <;> omega
      rw [lratio_ok hz.1 (pow_up hz.2.2.1 (by decide)), w_ok, set_I (by omega) (by omega), w_ok, w_nx]
      have hk2 := mk_good (n := z.1 * 2 * d3) (k := 152) hz.1 h3 (natAbs_lt hz.1 (pow_up hz.2.2.1 (by decide)))
      have hk3 := (mk_ok (n := z.1 * 2 * d3) hz.1 (pow_up h3 (by decide)) (pow_up hz.2.2.1 (by decide))).2
      refine ⟨by rw [List.length_set, hi.1], fun y hy => ?_, fun j y hj hy => ?_⟩
      · rcases List.mem_or_eq_of_mem_set hy with hy | rfl
        · exact hi.2.1 y hy
        · refine ⟨hk2.pos, hk2.up, ?_, Nat.dvd_trans hk3 hz.2.2.2⟩
          exact Nat.lt_of_le_of_lt (Nat.le_of_dvd (by have := hz.1; omega) hk3) hz.2.2.1
      · rw [List.getElem?_set_ne (by rw [Int.toNat_natCast]; omega)] at hy
        exact hi.2.2 j y (by omega) hy
    · exact ⟨by have := hi.1; omega, fun y hy => ⟨⟨(hi.2.1 y hy).1, pow_up (hi.2.1 y hy).2.1 (by decide), pow_up (hi.2.1 y hy).2.2.1 (by decide)⟩, up (hi.2.1 y hy).2.2.2⟩⟩
end FB
set_option linter.all false
set_option maxRecDepth 100000
set_option maxHeartbeats 4000000
set_option exponentiation.threshold 20000
namespace FB
open FS PySem
open Py (dy un)
theorem start_B {n : Nat} {cs : List Int} (h : Cnt n cs) (hn : n ≤ 12) (hs : 0 < cs.sum) {xs : List Num} (e : mapL cs (fun n' => (m_law_ratio n' cs.sum).calm) = .ok xs) (hS : cs.sum.natAbs < 2 ^ 140) : StB cs.sum.natAbs xs := by
  have e2 : mapL cs (fun n' => (m_law_ratio n' cs.sum).calm) = .ok (cs.map fun c => mk c cs.sum) := mapL_k (g := fun c => mk c cs.sum) (fun c hc => by
    rw [lratio_ok hs (pow_up hS (by decide))]
    rfl) (by rw [h.len]; omega)
  rw [e2] at e
  cases e
  refine ⟨by rw [List.length_map, h.len]; omega, fun x hx => ?_⟩
  obtain ⟨c, hc, rfl⟩ := List.mem_map.mp hx
  have h1 := le_sum h.nn hc
  have h0 := h.nn c hc
  have hc2 : c.natAbs < 2 ^ 140 := by omega
  have g := mk_good (n := c) hs hc2 (natAbs_lt hs hS)
  exact ⟨g.pos, pow_up g.up (by decide), pow_up (lt_natAbs (by have := g.pos; omega) g.dn) (by decide), (mk_ok hs (pow_up hc2 (by decide)) (pow_up hS (by decide))).2⟩
theorem plain (sc : Scr) : m_law sc = .ok true := by
  rw [e_law]
  refine Res.W.eq ?_
  unfold m_law_b
  obtain ⟨n, sights, e1, hr⟩ := sights_ok sc
  obtain ⟨cs, e2, hc, hs⟩ := counts_of sc hr
  obtain ⟨xs, e3, hst, hxl, hS⟩ := start_of hc hr.n2 hs
  have hB := start_B hc hr.n2 hs e3 hS
  obtain ⟨c9, l9, f1, f2, hd9⟩ := drawsC sc (k := 9) (by omega) (sizes := [6, 12, 12, 2]) (sz (by decide)) (by decide)
  obtain ⟨c10, l10, f3, f4, hd10⟩ := drawsC sc (k := 10) (by omega) (sizes := [7, 6, 12, 2, 2]) (sz (by decide)) (by decide)
  have hp2 := hr.p2
  have hn1 := hr.n1
  have hS0 : 0 < cs.sum.natAbs := by omega
  have hD : cs.sum.natAbs * 10 ^ 30 < 2 ^ 1900 := by
    have a : cs.sum.natAbs * 10 ^ 30 < 2 ^ 140 * 2 ^ 100 := Nat.mul_lt_mul'' hS (by decide)
    exact Nat.lt_trans a (by decide)
  have hok := hst.ok_ hS0 (Nat.lt_trans hS (by decide))
  match l9, hd9 with
  | [a0, a1, a2, a3], ⟨h0, h1, h2, h3, _⟩ =>
    match l10, hd10 with
    | [b0, b1, b2, b3, b4], ⟨k0, k1, k2, k3, k4, _⟩ =>
      obtain ⟨ys, e4, hy⟩ := spoil_start_ok hB (by omega) hS0 (d0 := a0) (d1 := a1) (d2 := a2) (d3 := a3) h0 h1.1 h2.1 h3
      obtain ⟨ts, e5, ht⟩ := spoil_sights_ok hr (d0 := b0) (d1 := b1) (d2 := b2) (d3 := b3) (d4 := b4) k0 k1.1 k2.1 k3
      have hok2 := hy.ok_ (Nat.mul_pos hS0 (by decide)) hD
      have g1 := agrees_ok (sights := sights) hok (by omega)
      have g2 := agrees_ok (sights := sights) hok2 (by omega)
      have g3 := agrees_ok (sights := ts) hok ht
      have g4 := agrees_ok (sights := ts) hok2 ht
      have gb : at_ [b0, b1, b2, b3, b4] 4 = .ok b4 := rfl
      simp only [w_fin, w_to, w_calm, w_exG, w_bind, w_ifO, w_up, w_rt]
      rw [e1, w_ok, e2, w_ok, e3, w_ok, g1, w_ok, w_ok, if_neg (by decide)]
      try simp only [w_ok]
      rw [f1, w_ok]
      try simp only [w_ok]
      rw [f2, w_ok]
      try simp only [w_ok]
      rw [e4, w_ok, g2]
      simp only [w_ok]
      rw [if_neg (by decide), f3]
      simp only [w_ok]
      try simp only [w_ok]
      rw [f4]
      simp only [w_ok]
      rw [e5]
      simp only [w_ok]
      rw [gb]
      simp only [w_ok]
      rcases (show b4 = 0 ∨ b4 = 1 by omega) with e | e
      · subst e
        rw [show at_ [xs, ys] 0 = .ok xs from rfl]
        simp only [w_ok]
        rw [g3]
        simp
      · subst e
        rw [show at_ [xs, ys] 1 = .ok ys from rfl]
        simp only [w_ok]
        rw [g4]
        simp
end FB
namespace FS
theorem plain_law : ∀ ns, m_law ⟨ns⟩ = .ok true := fun ns => FB.plain ⟨ns⟩
end FS
set_option Elab.async false
set_option linter.all false
set_option maxRecDepth 100000
set_option maxHeartbeats 4000000
set_option exponentiation.threshold 20000
namespace FS
open PySem PySem.Spec PyProof.Rows L2
open Py (dy un)
open Enc (en)
open EncA (ea)

def topS (i : Nat) : Stmt := PySem.Challenge.pw_fairstart_k06_books_of_one_start.main.body.getD i (.Pass ⟨0, 0, 0, 0⟩)
abbrev s_law_draws : Stmt := topS 32
abbrev N_law_draws : List Str := ["cell", "sizes", "told", "rest", "size", "seed", "k", "mixed"]
theorem sc_law_draws : FnScope ["cell", "sizes", "told", "rest", "size", "seed", "k", "mixed"] ["cell", "sizes"] (defScope s_law_draws) := ⟨rfl, rfl, rfl, by decide +kernel, rfl, by decide +kernel, by decide +kernel⟩
abbrev s_law_cell : Stmt := topS 31
abbrev N_law_cell : List Str := ["script", "k"]
theorem sc_law_cell : FnScope ["script", "k"] ["script", "k"] (defScope s_law_cell) := ⟨rfl, rfl, rfl, by decide +kernel, rfl, by decide +kernel, by decide +kernel⟩
abbrev s_law_sights : Stmt := topS 39
abbrev N_law_sights : List Str := ["script", "shape", "worlds", "people", "sights", "person", "drawn", "menu", "k", "w"]
theorem sc_law_sights : FnScope ["script", "shape", "worlds", "people", "sights", "person", "drawn", "menu", "k", "w"] ["script"] (defScope s_law_sights) := ⟨rfl, rfl, rfl, by decide +kernel, rfl, by decide +kernel, by decide +kernel⟩
abbrev s_law_counts : Stmt := topS 40
abbrev N_law_counts : List Str := ["script", "sights", "worlds", "drawn", "row", "world", "counts", "n", "w"]
theorem sc_law_counts : FnScope ["script", "sights", "worlds", "drawn", "row", "world", "counts", "n", "w"] ["script", "sights"] (defScope s_law_counts) := ⟨rfl, rfl, rfl, by decide +kernel, rfl, by decide +kernel, by decide +kernel⟩
abbrev s_law_gcd : Stmt := topS 33
abbrev N_law_gcd : List Str := ["first", "second", "k", "rest"]
theorem sc_law_gcd : FnScope ["first", "second", "k", "rest"] ["first", "second"] (defScope s_law_gcd) := ⟨rfl, rfl, rfl, by decide +kernel, rfl, by decide +kernel, by decide +kernel⟩
abbrev s_law_ratio : Stmt := topS 35
abbrev N_law_ratio : List Str := ["n", "d", "common"]
theorem sc_law_ratio : FnScope ["n", "d", "common"] ["n", "d"] (defScope s_law_ratio) := ⟨rfl, rfl, rfl, by decide +kernel, rfl, by decide +kernel, by decide +kernel⟩
abbrev s_law_spoil_start : Stmt := topS 41
abbrev N_law_spoil_start : List Str := ["start", "drawn", "at", "other", "w"]
theorem sc_law_spoil_start : FnScope ["start", "drawn", "at", "other", "w"] ["start", "drawn"] (defScope s_law_spoil_start) := ⟨rfl, rfl, rfl, by decide +kernel, rfl, by decide +kernel, by decide +kernel⟩
abbrev s_law_spoil_sights : Stmt := topS 42
abbrev N_law_spoil_sights : List Str := ["sights", "drawn", "person", "world", "k", "j"]
theorem sc_law_spoil_sights : FnScope ["sights", "drawn", "person", "world", "k", "j"] ["sights", "drawn"] (defScope s_law_spoil_sights) := ⟨rfl, rfl, rfl, by decide +kernel, rfl, by decide +kernel, by decide +kernel⟩
abbrev s_law_fits : Stmt := topS 43
abbrev N_law_fits : List Str := ["sights", "row"]
theorem sc_law_fits : FnScope ["sights", "row"] ["sights"] (defScope s_law_fits) := ⟨rfl, rfl, rfl, by decide +kernel, rfl, by decide +kernel, by decide +kernel⟩
abbrev s_law_numbered : Stmt := topS 36
abbrev N_law_numbered : List Str := ["labels", "seen", "label"]
theorem sc_law_numbered : FnScope ["labels", "seen", "label"] ["labels"] (defScope s_law_numbered) := ⟨rfl, rfl, rfl, by decide +kernel, rfl, by decide +kernel, by decide +kernel⟩
abbrev s_law_lowest : Stmt := topS 38
abbrev N_law_lowest : List Str := ["cells", "weights", "told", "cell", "common", "world"]
theorem sc_law_lowest : FnScope ["cells", "weights", "told", "cell", "common", "world"] ["cells", "weights"] (defScope s_law_lowest) := ⟨rfl, rfl, rfl, by decide +kernel, rfl, by decide +kernel, by decide +kernel⟩
abbrev s_law_cells : Stmt := topS 37
abbrev N_law_cells : List Str := ["labels", "cells", "label", "cell", "w"]
theorem sc_law_cells : FnScope ["labels", "cells", "label", "cell", "w"] ["labels"] (defScope s_law_cells) := ⟨rfl, rfl, rfl, by decide +kernel, rfl, by decide +kernel, by decide +kernel⟩
abbrev s_law_due : Stmt := topS 44
abbrev N_law_due : List Str := ["sights", "start", "common", "number", "counts", "labels", "row", "odds", "person", "weights"]
theorem sc_law_due : FnScope ["sights", "start", "common", "number", "counts", "labels", "row", "odds", "person", "weights"] ["sights", "start"] (defScope s_law_due) := ⟨rfl, rfl, rfl, by decide +kernel, rfl, by decide +kernel, by decide +kernel⟩
abbrev s_check_sights : Stmt := topS 24
abbrev N_check_sights : List Str := ["sights", "worlds", "row", "label"]
theorem sc_check_sights : FnScope ["sights", "worlds", "row", "label"] ["sights"] (defScope s_check_sights) := ⟨rfl, rfl, rfl, by decide +kernel, rfl, by decide +kernel, by decide +kernel⟩
abbrev s_check_odds : Stmt := topS 25
abbrev N_check_odds : List Str := ["sights", "odds", "row", "weight"]
theorem sc_check_odds : FnScope ["sights", "odds", "row", "weight"] ["sights", "odds"] (defScope s_check_odds) := ⟨rfl, rfl, rfl, by decide +kernel, rfl, by decide +kernel, by decide +kernel⟩
abbrev s_numbered : Stmt := topS 26
abbrev N_numbered : List Str := ["row", "seen", "label"]
theorem sc_numbered : FnScope ["row", "seen", "label"] ["row"] (defScope s_numbered) := ⟨rfl, rfl, rfl, by decide +kernel, rfl, by decide +kernel, by decide +kernel⟩
abbrev s_gathered : Stmt := topS 27
abbrev N_gathered : List Str := ["labels", "cells", "_", "world"]
theorem sc_gathered : FnScope ["labels", "cells", "_", "world"] ["labels"] (defScope s_gathered) := ⟨rfl, rfl, rfl, by decide +kernel, rfl, by decide +kernel, by decide +kernel⟩
abbrev s_lowest : Stmt := topS 28
abbrev N_lowest : List Str := ["person", "cells", "weights", "told", "cell", "common", "world"]
theorem sc_lowest : FnScope ["person", "cells", "weights", "told", "cell", "common", "world"] ["person", "cells", "weights"] (defScope s_lowest) := ⟨rfl, rfl, rfl, by decide +kernel, rfl, by decide +kernel, by decide +kernel⟩
abbrev s_Book_init : Stmt := inClass (topS 29) 0
abbrev N_Book_init : List Str := ["self", "sights", "odds", "row", "labels", "person", "weights", "cell", "world"]
theorem sc_Book_init : FnScope ["self", "sights", "odds", "row", "labels", "person", "weights", "cell", "world"] ["self", "sights", "odds"] (defScope s_Book_init) := ⟨rfl, rfl, rfl, by decide +kernel, rfl, by decide +kernel, by decide +kernel⟩
abbrev s_whole : Stmt := topS 16
abbrev N_whole : List Str := ["numbers", "factor", "_", "d", "n"]
theorem sc_whole : FnScope ["numbers", "factor", "_", "d", "n"] ["numbers"] (defScope s_whole) := ⟨rfl, rfl, rfl, by decide +kernel, rfl, by decide +kernel, by decide +kernel⟩
abbrev s_ratio : Stmt := topS 14
abbrev N_ratio : List Str := ["n", "d", "common"]
theorem sc_ratio : FnScope ["n", "d", "common"] ["n", "d"] (defScope s_ratio) := ⟨rfl, rfl, rfl, by decide +kernel, rfl, by decide +kernel, by decide +kernel⟩
abbrev s_plus : Stmt := topS 15
abbrev N_plus : List Str := ["numbers", "top", "bottom", "n", "d", "common"]
theorem sc_plus : FnScope ["numbers", "top", "bottom", "n", "d", "common"] ["numbers"] (defScope s_plus) := ⟨rfl, rfl, rfl, by decide +kernel, rfl, by decide +kernel, by decide +kernel⟩
abbrev s_is_shares : Stmt := topS 23
abbrev N_is_shares : List Str := ["row", "n", "_"]
theorem sc_is_shares : FnScope ["row", "n", "_"] ["row"] (defScope s_is_shares) := ⟨rfl, rfl, rfl, by decide +kernel, rfl, by decide +kernel, by decide +kernel⟩
abbrev s_Book_from_start : Stmt := inClass (topS 29) 1
abbrev N_Book_from_start : List Str := ["cls", "sights", "start", "weights", "odds", "person"]
theorem sc_Book_from_start : FnScope ["cls", "sights", "start", "weights", "odds", "person"] ["cls", "sights", "start"] (defScope s_Book_from_start) := ⟨rfl, rfl, rfl, by decide +kernel, rfl, by decide +kernel, by decide +kernel⟩
abbrev s_law_plain : Stmt := topS 45
abbrev N_law_plain : List Str := ["actual"]
theorem sc_law_plain : FnScope ["actual"] ["actual"] (defScope s_law_plain) := ⟨rfl, rfl, rfl, by decide +kernel, rfl, by decide +kernel, by decide +kernel⟩
abbrev s_law_ask : Stmt := topS 46
abbrev N_law_ask : List Str := ["sights", "start", "handed", "row", "answer", "e", "kinds", "labels"]
theorem sc_law_ask : FnScope ["sights", "start", "handed", "row", "answer", "e", "kinds", "labels"] ["sights", "start"] (defScope s_law_ask) := ⟨rfl, rfl, rfl, by decide +kernel, rfl, by decide +kernel, by decide +kernel⟩
abbrev s_law_same : Stmt := topS 34
abbrev N_law_same : List Str := ["actual", "due", "k"]
theorem sc_law_same : FnScope ["actual", "due", "k"] ["actual", "due"] (defScope s_law_same) := ⟨rfl, rfl, rfl, by decide +kernel, rfl, by decide +kernel, by decide +kernel⟩
abbrev s_Book_sights : Stmt := inClass (topS 29) 2
abbrev N_Book_sights : List Str := ["self", "row"]
theorem sc_Book_sights : FnScope ["self", "row"] ["self"] (defScope s_Book_sights) := ⟨rfl, rfl, rfl, by decide +kernel, rfl, by decide +kernel, by decide +kernel⟩
abbrev s_Book_odds : Stmt := inClass (topS 29) 3
abbrev N_Book_odds : List Str := ["self", "row"]
theorem sc_Book_odds : FnScope ["self", "row"] ["self"] (defScope s_Book_odds) := ⟨rfl, rfl, rfl, by decide +kernel, rfl, by decide +kernel, by decide +kernel⟩
abbrev s_law_agrees : Stmt := topS 47
abbrev N_law_agrees : List Str := ["sights", "start", "due", "answer", "book"]
theorem sc_law_agrees : FnScope ["sights", "start", "due", "answer", "book"] ["sights", "start"] (defScope s_law_agrees) := ⟨rfl, rfl, rfl, by decide +kernel, rfl, by decide +kernel, by decide +kernel⟩
abbrev s_law : Stmt := topS 48
abbrev N_law : List Str := ["script", "sights", "counts", "start", "n", "spoilt", "drawn"]
theorem sc_law : FnScope ["script", "sights", "counts", "start", "n", "spoilt", "drawn"] ["script"] (defScope s_law) := ⟨rfl, rfl, rfl, by decide +kernel, rfl, by decide +kernel, by decide +kernel⟩
structure Gm [Cm] (K : PySem.W.Frag) (mg : Str → Option Value) : Prop where
  BadBook_f : Cm.fs "BadBook" = ([] : List Str)
  BadBook_p : Ep K mg "BadBook" (Cm.at_ "BadBook")
  BadBook_v : mg "BadBook" = some (.ref (Cm.at_ "BadBook"))
  BadNumber_f : Cm.fs "BadNumber" = ([] : List Str)
  BadNumber_p : Ep K mg "BadNumber" (Cm.at_ "BadNumber")
  BadOdds_f : Cm.fs "BadOdds" = (["person", "world"] : List Str)
  BadOdds_v : mg "BadOdds" = some (.ref (Cm.at_ "BadOdds"))
  BadOrder_v : mg "BadOrder" = some (.ref (Cm.at_ "BadOrder"))
  BadRow_f : Cm.fs "BadRow" = ([] : List Str)
  BadRow_p : Ep K mg "BadRow" (Cm.at_ "BadRow")
  BadRow_v : mg "BadRow" = some (.ref (Cm.at_ "BadRow"))
  BadText_v : mg "BadText" = some (.ref (Cm.at_ "BadText"))
  Book_a__cells : NoAttr K (Cm.at_ "Book") "_cells"
  Book_a__labels : NoAttr K (Cm.at_ "Book") "_labels"
  Book_a__totals : NoAttr K (Cm.at_ "Book") "_totals"
  Book_a__weights : NoAttr K (Cm.at_ "Book") "_weights"
  Book_a_people : NoAttr K (Cm.at_ "Book") "people"
  Book_a_worlds : NoAttr K (Cm.at_ "Book") "worlds"
  Book_c : Cls K (Cm.at_ "Book")
  Book_fs : Cm.fs "Book" = (["worlds", "people", "_labels", "_cells", "_weights", "_totals"] : List Str)
  Book_i : IsiC K (Cm.at_ "Book")
  Book_v : mg "Book" = some (.ref (Cm.at_ "Book"))
  Fault_v : mg "Fault" = some (.ref (Cm.at_ "Fault"))
  MOST_PEOPLE : ∃ t, mg "MOST_PEOPLE" = some (.int 6 t)
  MOST_WEIGHT : ∃ t, mg "MOST_WEIGHT" = some (.int 10000000000000000000000000000000000000000 t)
  MOST_WORLDS : ∃ t, mg "MOST_WORLDS" = some (.int 12 t)
  ONE : TupC K mg "ONE" [1, 1]
  abs : mg "abs" = none
  bool : mg "bool" = none
  gcd : mg "gcd" = some (.builtin "math.gcd")
  int : mg "int" = none
  isinstance : mg "isinstance" = none
  lcm : mg "lcm" = some (.builtin "math.lcm")
  len : mg "len" = none
  list : mg "list" = none
  max : mg "max" = none
  min : mg "min" = none
  range : mg "range" = none
  sum : mg "sum" = none
  tuple : mg "tuple" = none
  xe : ∀ y ∈ ERRS, ExcC K (Cm.at_ y)
  xf_person : ∀ y j n, (y, j, n) ∈ XF_person → ExcC K (Cm.at_ y) ∧ PySem.W.findIn K (.ref (Cm.at_ y)) "person" = some none ∧ (Cm.fs y).reverse ≠ [] ∧ j < n ∧ fldAt (Cm.fs y).reverse "person" = some (n - 1 - j)
  xf_world : ∀ y j n, (y, j, n) ∈ XF_world → ExcC K (Cm.at_ y) ∧ PySem.W.findIn K (.ref (Cm.at_ y)) "world" = some none ∧ (Cm.fs y).reverse ≠ [] ∧ j < n ∧ fldAt (Cm.fs y).reverse "world" = some (n - 1 - j)
  xk_BadBook : ∀ y ∈ ERRS, PySem.W.kitOne K (.ref (Cm.at_ y)) (.ref (Cm.at_ "BadBook")) = some (y == "BadBook")
  xk_BadOdds : ∀ y ∈ ERRS, PySem.W.kitOne K (.ref (Cm.at_ y)) (.ref (Cm.at_ "BadOdds")) = some (y == "BadOdds")
  xk_BadOrder : ∀ y ∈ ERRS, PySem.W.kitOne K (.ref (Cm.at_ y)) (.ref (Cm.at_ "BadOrder")) = some (y == "BadOrder")
  xk_BadRow : ∀ y ∈ ERRS, PySem.W.kitOne K (.ref (Cm.at_ y)) (.ref (Cm.at_ "BadRow")) = some (y == "BadRow")
  xk_BadText : ∀ y ∈ ERRS, PySem.W.kitOne K (.ref (Cm.at_ y)) (.ref (Cm.at_ "BadText")) = some (y == "BadText")
  xm : ∀ y ∈ ERRS, PySem.W.exmOne K (.ref (Cm.at_ y)) (.ref (Cm.at_ "Fault")) = some true
section
variable {P : Program} {w : World} [Cm] {K : PySem.W.Frag} {mg : Str → Option Value} {base : Heap}
theorem ok_law_draws (F : Df K mg "_law_draws" s_law_draws ["cell", "sizes"]) (gm : Gm K mg)  : FnG P w K mg base CX0 1 "_law_draws" ["cell", "sizes"] (spD K (fnP (τ := Int × (List Int) × Unit) (kCl (γ := (List Int))) fun t => m_law_draws t.1 t.2.1)) := by
  refine F.ok (k := 0) sc_law_draws (fn_len fun _ => rfl) (fun f cdv A outer s H E hr => ⟨_,
    (pss_cons (sv 2 sc_law_draws.nd (pe_lst pa_nil)) (pss_cons (sv 3 sc_law_draws.nd (ct cInt gm.int (pa_cons (pv 0) pa_nil))) (pss_cons (ps_if (pt_cmpR opGe (pv 3) (pe_op opPow pe_int pe_int) (nomark _)) (pss_cons (sv 3 sc_law_draws.nd (pe_op opSub (pv 3) (pe_op opPow pe_int pe_int))) (pss_cons (ps_for PassesOwn.never rfl (pl K (pv 1)) (gn 4 sc_law_draws.nd) (pss_cons (ps_expr (ml_append K (pv 2) (pa_cons (pe_op opMod (ct cInt gm.int (pa_cons (pv 3) pa_nil)) (pv 4)) pa_nil))) (pss_cons (sv 3 sc_law_draws.nd (pe_op opDiv (pv 3) (pv 4))) pss_nil))) (pss_one (ps_ret (pv 2))))) pss_nil) (pss_cons (sv 5 sc_law_draws.nd (pe_op opMod (ct cInt gm.int (pa_cons (pv 3) pa_nil)) pe_int)) (pss_cons (ps_for PassesOwn.never rfl (pi_range1 (by rfl) gm.range (pa_cons (cb (kLen K) gm.len (pa_cons (pv 1) pa_nil)) pa_nil)) (gn 6 sc_law_draws.nd) (pss_cons (sv 5 sc_law_draws.nd (pe_op opMod (ct cInt gm.int (pa_cons (pe_op (kAdd K) (pe_op (kAdd K) (pe_op opMul (pv 5) pe_int) (pe_op opMul pe_int (pv 6))) pe_int) pa_nil)) pe_int)) (pss_cons (sv 7 sc_law_draws.nd (pe_op opMod (ct cInt gm.int (pa_cons (pe_op (kAdd K) (pe_op (kAdd K) (pe_op opMul (pv 5) pe_int) (pe_op opMul pe_int (pv 6))) pe_int) pa_nil)) pe_int)) (pss_cons (ps_expr (ml_append K (pv 2) (pa_cons (pe_op opMod (ct cInt gm.int (pa_cons (pe_op opDiv (pv 7) pe_int) pa_nil)) (ix K (pv 1) (pv 6))) pa_nil))) pss_nil)))) (pss_one (ps_ret (pv 2)))))))),
    fn_w (fun t => [.im (en t.1), .im (en t.2.1), .no, .no, .no, .no, .no, .no]) (b := fun t => m_law_draws_b t.1 t.2.1) (r0 := .no) (eS := fun _ (_ : Unit) => [.no, .no, .no, .no, .no, .no, .no, .no]) (eLL := fun _ (_ : Unit) => []) (fun _ => rfl) (fun ⟨cell', sizes', _⟩ =>
    wq_asgO_ (eo_is (eo_lst (el_n (α := Int))) rfl) (Nat.le_of_ble_eq_true rfl) (fun told' =>
    wq_asg_ (er_is (er_toint (er_var rfl)) rfl) (fun rest' =>
    wq_ifx (et_is (et_t (er_is (er_ge (er_var rfl) (er_powC (a := 10) (b := 18) (z := 1000000000000000000) ⟨by decide, by decide, by decide⟩ (by decide))) rfl)) rfl)
    (wq_asg_ (er_is (er_sub (er_var rfl) (er_powC (a := 10) (b := 18) (z := 1000000000000000000) ⟨by decide, by decide, by decide⟩ (by decide))) rfl) (fun rest' =>
    wo_drop_ (i := 0) (Nat.le_of_ble_eq_true rfl) <| wo_seq (e1 := (up2 (fun (told' : List Int) (rest' : Int) => [.no, .im (en sizes'), .ow (told'.map en), .im (en rest'), .no, .no, .no, .no]))) (wo_for (as := fun (p : Int) => [(4, en p)]) (e := (up2 (fun (told' : List Int) (rest' : Int) => [.no, .im (en sizes'), .ow (told'.map en), .im (en rest'), .no, .no, .no, .no]))) (f := fun (size' : Int) => up2 (m_law_draws_l1 size')) (s0 := (told', rest')) (sr_l (er_var rfl)) tg_n rfl (fun size' ⟨told', rest'⟩ =>
    wq_appO_ (i := 2) rfl (er_is (er_mod (er_toint (er_var rfl)) (er_var rfl)) rfl) (fun told' =>
    wq_asg_ (er_is (er_div (er_var rfl) (er_var rfl)) rfl) (fun rest' =>
    wo_drop_ (i := 4) (Nat.le_of_ble_eq_true rfl) <| wo_nx rfl)))) (fun ⟨told', rest'⟩ =>
    wo_drop_ (i := 1) (Nat.le_of_ble_eq_true rfl) <| wo_drop_ (i := 3) (Nat.le_of_ble_eq_true rfl) <| wo_owcl (i := 2) rfl <| wo_retVC (i := 2) rfl)))
    (wq_asg_ (er_is (er_modL (er_toint (er_var rfl)) er_int (by decide)) rfl) (fun seed' =>
    wo_drop_ (i := 0) (Nat.le_of_ble_eq_true rfl) <| wo_drop_ (i := 3) (Nat.le_of_ble_eq_true rfl) <| wo_seq (e1 := (up2 (fun (told' : List Int) (seed' : Int) => [.no, .im (en sizes'), .ow (told'.map en), .no, .no, .im (en seed'), .no, .no]))) (wo_for (as := fun (p : Int) => [(6, en p)]) (e := (up2 (fun (told' : List Int) (seed' : Int) => [.no, .im (en sizes'), .ow (told'.map en), .no, .no, .im (en seed'), .no, .no]))) (f := fun (k' : Int) => up2 (m_law_draws_l2 sizes' k')) (s0 := (told', seed')) (sr_r1 (er_len (er_var rfl))) tg_n rfl (fun k' ⟨told', seed'⟩ =>
    wq_asg_ (er_is (er_modL (er_toint (er_add (er_add (er_mulR (er_var rfl) er_int (by decide)) (er_mulL er_int (er_var rfl) (by decide))) er_int)) er_int (by decide)) rfl) (fun seed' =>
    wq_asg_ (er_is (er_modL (er_toint (er_add (er_add (er_mulR (er_var rfl) er_int (by decide)) (er_mulL er_int (er_var rfl) (by decide))) er_int)) er_int (by decide)) rfl) (fun mixed' =>
    wq_appO_ (i := 2) rfl (er_is (er_mod (er_toint (er_divL (er_var rfl) er_int ⟨by decide, by decide +kernel⟩)) (er_ix (er_var rfl) (er_var rfl))) rfl) (fun told' =>
    wo_drop_ (i := 6) (Nat.le_of_ble_eq_true rfl) <| wo_drop_ (i := 7) (Nat.le_of_ble_eq_true rfl) <| wo_nx rfl))))) (fun ⟨told', seed'⟩ =>
    wo_drop_ (i := 1) (Nat.le_of_ble_eq_true rfl) <| wo_drop_ (i := 5) (Nat.le_of_ble_eq_true rfl) <| wo_owcl (i := 2) rfl <| wo_retVC (i := 2) rfl)))))) (fun t => e_law_draws t.1 t.2.1) (.inl rfl)⟩)

theorem ok_law_cell (F : Df K mg "_law_cell" s_law_cell ["script", "k"]) (gm : Gm K mg)  : FnG P w K mg base CX0 1 "_law_cell" ["script", "k"] (spD K (fnP (τ := Scr × Int × Unit) (kIm (γ := Int)) fun t => m_law_cell t.1 t.2.1)) := by
  refine F.ok (k := 0) sc_law_cell (fn_len fun _ => rfl) (fun f cdv A outer s H E hr => ⟨_,
    (pss_cons (ps_if (pt_cmpR opLt (pv 1) (cb (kLen K) gm.len (pa_cons (pv 0) pa_nil)) (nomark _)) (pss_one (ps_ret (ix K (pv 0) (pv 1)))) pss_nil) (pss_one (ps_ret (pe_op (kAdd K) (pe_op opMul pe_int (pv 1)) pe_int)))),
    fn_w (fun t => [.im (en t.1), .im (en t.2.1)]) (b := fun t => m_law_cell_b t.1 t.2.1) (r0 := .no) (eS := fun _ (_ : Unit) => [.no, .no]) (eLL := fun _ (_ : Unit) => []) (fun _ => rfl) (fun ⟨script', k', _⟩ =>
    wq_ifx (et_is (et_t (er_is (er_lt (er_var rfl) (er_lenC (er_var rfl))) rfl)) rfl)
    (wo_is (wo_ret (er_is (er_ixC (er_var rfl) (er_var rfl)) rfl)) rfl)
    (wo_is (wo_ret (er_is (er_add (er_mulL er_int (er_var rfl) (by decide)) er_int) rfl)) rfl)) (fun t => e_law_cell t.1 t.2.1) (.inl rfl)⟩)

theorem ok_law_sights (F : Df K mg "_law_sights" s_law_sights ["script"]) (gm : Gm K mg)  (G_law_draws : FnG P w K mg base CX0 1 "_law_draws" ["cell", "sizes"] (spD K (fnP (τ := Int × (List Int) × Unit) (kCl (γ := (List Int))) fun t => m_law_draws t.1 t.2.1))) (G_law_cell : FnG P w K mg base CX0 1 "_law_cell" ["script", "k"] (spD K (fnP (τ := Scr × Int × Unit) (kIm (γ := Int)) fun t => m_law_cell t.1 t.2.1))) : FnG P w K mg base CX0 2 "_law_sights" ["script"] (spD K (fnP (τ := Scr × Unit) (kCl (γ := (List (List Int)))) fun t => m_law_sights t.1)) := by
  refine F.ok (k := 1) sc_law_sights (fn_len fun _ => rfl) (fun f cdv A outer s H E hr => ⟨_,
    (pss_cons (sv 1 sc_law_sights.nd (pe_g G_law_draws hr.le pass0 (pa_cons (pe_g G_law_cell hr.le pass0 (pa_cons (pv 0) (pa_cons pe_int pa_nil))) (pa_cons (pe_lst (pa_cons pe_int (pa_cons pe_int (pa_cons pe_int (pa_cons pe_int (pa_cons pe_int pa_nil)))))) pa_nil)))) (pss_cons (sv 2 sc_law_sights.nd (pe_op (kAdd K) (ix K (pv 1) pe_int) pe_int)) (pss_cons (sv 3 sc_law_sights.nd (pe_op (kAdd K) (ix K (pv 1) pe_int) pe_int)) (pss_cons (ps_if (pt_cmpR (kEq K hr.units) (ix K (pv 1) pe_int) pe_int (nomark _)) (pss_cons (sv 2 sc_law_sights.nd (pe_op (kAdd K) (ix K (pv 1) pe_int) pe_int)) (pss_cons (sv 3 sc_law_sights.nd (pe_op (kAdd K) (ix K (pv 1) pe_int) pe_int)) pss_nil)) pss_nil) (pss_cons (sv 4 sc_law_sights.nd (pe_lst pa_nil)) (pss_cons (ps_for PassesOwn.never rfl (pi_range1 (by rfl) gm.range (pa_cons (pv 3) pa_nil)) (gn 5 sc_law_sights.nd) (pss_cons (sv 6 sc_law_sights.nd (pe_g G_law_draws hr.le pass0 (pa_cons (pe_g G_law_cell hr.le pass0 (pa_cons (pv 0) (pa_cons (pe_op (kAdd K) pe_int (pv 5)) pa_nil))) (pa_cons (pe_lc (own := [("k", 8)]) rfl sc_law_sights.nd (pi_range1 (by rfl) gm.range (pa_cons (pe_op (kAdd K) (pv 2) pe_int) pa_nil)) (blkOk_by (N := N_law_sights) (sc := defScope s_law_sights) (by decide +kernel)) (fun _ _ _ _ _ => (gn 8 sc_law_sights.nd)) (fun _ _ _ _ _ => pts_nil) (fun _ _ _ _ _ => pe_int)) pa_nil)))) (pss_cons (sv 7 sc_law_sights.nd (pe_op (kAdd K) pe_int (pe_op opMod (ct cInt gm.int (pa_cons (ix K (pv 6) pe_int) pa_nil)) (pv 2)))) (pss_cons (ps_expr (ml_append K (pv 4) (pa_cons (pe_lc (own := [("w", 9)]) rfl sc_law_sights.nd (pi_range1 (by rfl) gm.range (pa_cons (pv 2) pa_nil)) (blkOk_by (N := N_law_sights) (sc := defScope s_law_sights) (by decide +kernel)) (fun _ _ _ _ _ => (gn 9 sc_law_sights.nd)) (fun _ _ _ _ _ => pts_nil) (fun _ _ _ _ _ => (pe_op opMod (ct cInt gm.int (pa_cons (pe_op (kAdd K) (pe_op opMod (ct cInt gm.int (pa_cons (ix K (pv 6) (pe_op (kAdd K) pe_int (pv 9))) pa_nil)) (pv 7)) (ix K (pv 6) pe_int)) pa_nil)) pe_int))) pa_nil))) pss_nil)))) (pss_one (ps_ret (pv 4))))))))),
    fn_w (fun t => [.im (en t.1), .no, .no, .no, .no, .no, .no, .no, .no, .no]) (b := fun t => m_law_sights_b t.1) (r0 := .no) (eS := fun _ (_ : Unit) => [.no, .no, .no, .no, .no, .no, .no, .no, .no, .no]) (eLL := fun _ (_ : Unit) => []) (fun _ => rfl) (fun ⟨script', _⟩ =>
    wq_asg_ (er_is (er_fz (ec_callR (ea_c (er_call (ea_c (er_var rfl) (ea_c er_int ea_n))) (ea_c (er_fzO (eo_lst (el_c er_int (el_c er_int (el_c er_int (el_c er_int (el_c er_int el_n))))))) ea_n)))) rfl) (fun shape' =>
    wq_asg_ (er_is (er_add (er_ix (er_var rfl) er_int) er_int) rfl) (fun worlds' =>
    wq_asg_ (er_is (er_add (er_ix (er_var rfl) er_int) er_int) rfl) (fun people' =>
    wo_seq (e1 := (up2 (fun (worlds' : Int) (people' : Int) => [.im (en script'), .no, .im (en worlds'), .im (en people'), .no, .no, .no, .no, .no, .no]))) (wo_if (et_is (et_t (er_is (er_eq (er_ix (er_var rfl) er_int) er_int) rfl)) rfl)
    (wq_asg_ (er_is (er_add (er_ix (er_var rfl) er_int) er_int) rfl) (fun worlds' =>
    wq_asg_ (er_is (er_add (er_ix (er_var rfl) er_int) er_int) rfl) (fun people' =>
    wo_drop_ (i := 1) (Nat.le_of_ble_eq_true rfl) <| wo_nx rfl)))
    (wo_drop_ (i := 1) (Nat.le_of_ble_eq_true rfl) <| wo_nx rfl)) (fun ⟨worlds', people'⟩ =>
    wq_asgC_ (ec_isR (ec_lstR ecl_n) rfl) (Nat.le_of_ble_eq_true rfl) (fun sights' =>
    wo_seq (e1 := (up1 (fun (sights' : List (List Int)) => [.im (en script'), .no, .im (en worlds'), .im (en people'), .cl (eo sights'), .no, .no, .no, .no, .no]))) (wo_for (as := fun (p : Int) => [(5, en p)]) (e := (up1 (fun (sights' : List (List Int)) => [.im (en script'), .no, .im (en worlds'), .im (en people'), .cl (eo sights'), .no, .no, .no, .no, .no]))) (f := fun (person' : Int) => up1 (m_law_sights_l1 script' worlds' person')) (s0 := sights') (sr_r1 (er_var rfl)) tg_n rfl (fun person' sights' =>
    wq_asg_ (er_is (er_fz (ec_callR (ea_c (er_call (ea_c (er_var rfl) (ea_c (er_add er_int (er_var rfl)) ea_n))) (ea_c (er_fzO (eo_lcP (as := fun (p : Int) => [(8, en p)]) (vs := [8]) (f := fun (k' : Int) => 12) (sw_d (sr_r1 (er_add (er_var rfl) er_int))) tg_n (wp1 rfl) (fun _ _ h => h) (fun k' => (er_is er_int rfl)))) ea_n)))) rfl) (fun drawn' =>
    wq_asg_ (er_is (er_add er_int (er_mod (er_toint (er_ix (er_var rfl) er_int)) (er_var rfl))) rfl) (fun menu' =>
    wq_appC_ (i := 4) rfl (ec_isR (ec_owR (eo_lcR (as := fun (p : Int) => [(9, en p)]) (vs := [9]) (f := fun (w' : Int) => (((at_ drawn' (2 + w')).bind fun v16 => fmod v16 menu').bind fun v17 => (at_ drawn' 1).bind fun v18 => .ok (v17 + v18)).bind fun v19 => .ok (v19 % 12)) (sw_d (sr_r1 (er_var rfl))) tg_n (wp1 rfl) (fun _ _ h => h) (fun w' => (er_is (er_modL (er_toint (er_add (er_mod (er_toint (er_ix (er_var rfl) (er_add er_int (er_var rfl)))) (er_var rfl)) (er_ix (er_var rfl) er_int))) er_int (by decide)) rfl)))) rfl) (fun sights' =>
    wo_drop_ (i := 5) (Nat.le_of_ble_eq_true rfl) <| wo_drop_ (i := 6) (Nat.le_of_ble_eq_true rfl) <| wo_drop_ (i := 7) (Nat.le_of_ble_eq_true rfl) <| wo_nx rfl))))) (fun sights' =>
    wo_drop_ (i := 0) (Nat.le_of_ble_eq_true rfl) <| wo_drop_ (i := 2) (Nat.le_of_ble_eq_true rfl) <| wo_drop_ (i := 3) (Nat.le_of_ble_eq_true rfl) <| wo_retVC (i := 4) rfl))))))) (fun t => e_law_sights t.1) (.inl rfl)⟩)

theorem ok_law_counts (F : Df K mg "_law_counts" s_law_counts ["script", "sights"]) (gm : Gm K mg)  (G_law_draws : FnG P w K mg base CX0 1 "_law_draws" ["cell", "sizes"] (spD K (fnP (τ := Int × (List Int) × Unit) (kCl (γ := (List Int))) fun t => m_law_draws t.1 t.2.1))) (G_law_cell : FnG P w K mg base CX0 1 "_law_cell" ["script", "k"] (spD K (fnP (τ := Scr × Int × Unit) (kIm (γ := Int)) fun t => m_law_cell t.1 t.2.1))) : FnG P w K mg base CX0 2 "_law_counts" ["script", "sights"] (spD K (fnP (τ := Scr × (List (List Int)) × Unit) (kCl (γ := (List Int))) fun t => m_law_counts t.1 t.2.1)) := by
  refine F.ok (k := 1) sc_law_counts (fn_len fun _ => rfl) (fun f cdv A outer s H E hr => ⟨_,
    (pss_cons (sv 2 sc_law_counts.nd (cb (kLen K) gm.len (pa_cons (ix K (pv 1) pe_int) pa_nil))) (pss_cons (sv 3 sc_law_counts.nd (pe_g G_law_draws hr.le pass0 (pa_cons (pe_g G_law_cell hr.le pass0 (pa_cons (pv 0) (pa_cons pe_int pa_nil))) (pa_cons (pe_lst (pa_cons pe_int (pa_cons pe_int (pa_cons pe_int (pa_cons pe_int (pa_cons pe_int (pa_cons pe_int pa_nil))))))) pa_nil)))) (pss_cons (sv 4 sc_law_counts.nd (ix K (pv 1) (pe_op opMod (ct cInt gm.int (pa_cons (ix K (pv 3) pe_int) pa_nil)) (cb (kLen K) gm.len (pa_cons (pv 1) pa_nil))))) (pss_cons (sv 5 sc_law_counts.nd (pe_op opMod (ct cInt gm.int (pa_cons (ix K (pv 3) pe_int) pa_nil)) (pv 2))) (pss_cons (ps_setLc (i := 6) (own := [("n", 7)]) rfl sc_law_counts.nd rfl rfl (sw_true rfl rfl rfl (by decide +kernel)) (pl K (pe_g G_law_draws hr.le pass0 (pa_cons (pe_g G_law_cell hr.le pass0 (pa_cons (pv 0) (pa_cons pe_int pa_nil))) (pa_cons (pe_lc (own := [("w", 8)]) rfl sc_law_counts.nd (pi_range1 (by rfl) gm.range (pa_cons (pv 2) pa_nil)) (blkOk_by (N := N_law_counts) (sc := defScope s_law_counts) (by decide +kernel)) (fun _ _ _ _ _ => (gn 8 sc_law_counts.nd)) (fun _ _ _ _ _ => pts_nil) (fun _ _ _ _ _ => pe_int)) pa_nil)))) (blkOk_by (N := N_law_counts) (sc := defScope s_law_counts) (by decide +kernel)) (fun _ _ _ _ _ => (gn 7 sc_law_counts.nd)) (fun _ _ _ _ _ => pts_nil) (fun _ _ _ _ _ => (pe_op (kAdd K) (pv 7) pe_int))) (pss_cons (ps_if (pt_cmpR (kEq K hr.units) (ix K (pv 3) pe_int) pe_int (nomark _)) (pss_cons (ps_setLc (i := 6) (own := [("n", 7)]) rfl sc_law_counts.nd rfl rfl (sw_true rfl rfl rfl (by decide +kernel)) (pl K (pv 6)) (blkOk_by (N := N_law_counts) (sc := defScope s_law_counts) (by decide +kernel)) (fun _ _ _ _ _ => (gn 7 sc_law_counts.nd)) (fun _ _ _ _ _ => pts_nil) (fun _ _ _ _ _ => (cb (call_max2 rfl) gm.max (pa_cons pe_int (pa_cons (pe_op opSub (pv 7) pe_int) pa_nil))))) pss_nil) pss_nil) (pss_cons (ps_if (pt_cmpR (kEq K hr.units) (ix K (pv 3) pe_int) pe_int (nomark _)) (pss_cons (ps_setLc (i := 6) (own := [("n", 7)]) rfl sc_law_counts.nd rfl rfl (sw_true rfl rfl rfl (by decide +kernel)) (pl K (pv 6)) (blkOk_by (N := N_law_counts) (sc := defScope s_law_counts) (by decide +kernel)) (fun _ _ _ _ _ => (gn 7 sc_law_counts.nd)) (fun _ _ _ _ _ => pts_nil) (fun _ _ _ _ _ => (pe_op opMul (pv 7) (pe_op opPow pe_int pe_int)))) pss_nil) (pss_one (ps_if (pt_cmpR opLt (ix K (pv 3) pe_int) pe_int (nomark _)) (pss_cons (ps_for PassesOwn.never rfl (pi_range1 (by rfl) gm.range (pa_cons (pv 2) pa_nil)) (gn 8 sc_law_counts.nd) (pss_one (ps_if (pt_cmpR (kEq K hr.units) (ix K (pv 4) (pv 8)) (ix K (pv 4) (pv 5)) (nomark _)) (pss_cons (ps_asg (ix K (pv 3) pe_int) (pg_sub (pv 6) (pv 8) set_list)) pss_nil) pss_nil))) pss_nil) pss_nil))) (pss_cons (ps_if (pt_cmpR (kEq K hr.units) (ix K (pv 3) pe_int) pe_int (nomark _)) (pss_cons (ps_asg (pe_op (kAdd K) (pe_op opPow pe_int pe_int) (ix K (pv 3) pe_int)) (pg_sub (pv 6) (pv 5) set_list)) pss_nil) pss_nil) (pss_cons (ps_if (pt_cmpR (kEq K hr.units) (cb (kSum K rfl) gm.sum (pa_cons (pv 6) pa_nil)) pe_int (nomark _)) (pss_cons (ps_asg (pe_op (kAdd K) (ix K (pv 3) pe_int) pe_int) (pg_sub (pv 6) (pv 5) set_list)) pss_nil) pss_nil) (pss_one (ps_ret (pv 6)))))))))))),
    fn_w (fun t => [.im (en t.1), .im (en t.2.1), .no, .no, .no, .no, .no, .no, .no]) (b := fun t => m_law_counts_b t.1 t.2.1) (r0 := .no) (eS := fun _ (_ : Unit) => [.no, .no, .no, .no, .no, .no, .no, .no, .no]) (eLL := fun _ (_ : Unit) => []) (fun _ => rfl) (fun ⟨script', sights', _⟩ =>
    wq_asg_ (er_is (er_len (er_ix (er_var rfl) er_int)) rfl) (fun worlds' =>
    wq_asg_ (er_is (er_fz (ec_callR (ea_c (er_call (ea_c (er_var rfl) (ea_c er_int ea_n))) (ea_c (er_fzO (eo_lst (el_c er_int (el_c er_int (el_c er_int (el_c er_int (el_c er_int (el_c er_int el_n)))))))) ea_n)))) rfl) (fun drawn' =>
    wq_asg_ (er_is (er_ix (er_var rfl) (er_mod (er_toint (er_ix (er_var rfl) er_int)) (er_len (er_var rfl)))) rfl) (fun row' =>
    wq_asg_ (er_is (er_mod (er_toint (er_ix (er_var rfl) er_int)) (er_var rfl)) rfl) (fun world' =>
    wq_asgO_ (eo_is (eo_lcP (as := fun (p : Int) => [(7, en p)]) (vs := [7]) (f := fun (n' : Int) => n' + 1) (sw_d (sr_l (er_fz (ec_callR (ea_c (er_call (ea_c (er_var rfl) (ea_c er_int ea_n))) (ea_c (er_fzO (eo_lcP (as := fun (p : Int) => [(8, en p)]) (vs := [8]) (f := fun (w' : Int) => 9) (sw_d (sr_r1 (er_var rfl))) tg_n (wp1 rfl) (fun _ _ h => h) (fun w' => (er_is er_int rfl)))) ea_n)))))) tg_n (wp1 rfl) (fun _ _ h => h) (fun n' => (er_is (er_add (er_var rfl) er_int) rfl))) rfl) (Nat.le_of_ble_eq_true rfl) (fun counts' =>
    wo_seq (e1 := (up1 (fun (counts' : List Int) => [.no, .no, .im (en worlds'), .im (en drawn'), .im (en row'), .im (en world'), .ow (counts'.map en), .no, .no]))) (wo_if (et_is (et_t (er_is (er_eq (er_ix (er_var rfl) er_int) er_int) rfl)) rfl)
    (wq_asgO_ (eo_is (eo_cl (ec_lentR (.im (.im (.im (.im (.im (.im (.ow (.no (.no .nil))))))))) (ec_owR (eo_lcP (as := fun (p : Int) => [(7, en p)]) (vs := [7]) (f := fun (n' : Int) => max 0 (n' - 5)) (sw_d (sr_l (er_var rfl))) tg_n (wp1 rfl) (fun _ _ h => h) (fun n' => (er_is (er_max2 er_int (er_sub (er_var rfl) er_int)) rfl)))))) rfl) (Nat.le_of_ble_eq_true rfl) (fun counts' =>
    wo_drop_ (i := 0) (Nat.le_of_ble_eq_true rfl) <| wo_drop_ (i := 1) (Nat.le_of_ble_eq_true rfl) <| wo_nx rfl))
    (wo_drop_ (i := 0) (Nat.le_of_ble_eq_true rfl) <| wo_drop_ (i := 1) (Nat.le_of_ble_eq_true rfl) <| wo_nx rfl)) (fun counts' =>
    wo_seq (e1 := (up1 (fun (counts' : List Int) => [.no, .no, .no, .im (en drawn'), .no, .im (en world'), .ow (counts'.map en), .no, .no]))) (wo_if (et_is (et_t (er_is (er_eq (er_ix (er_var rfl) er_int) er_int) rfl)) rfl)
    (wq_asgO_ (eo_is (eo_cl (ec_lentR (.no (.no (.im (.im (.im (.im (.ow (.no (.no .nil))))))))) (ec_owR (eo_lcR (as := fun (p : Int) => [(7, en p)]) (vs := [7]) (f := fun (n' : Int) => mul n' 1000000000000000000000000000000000000000) (sw_d (sr_l (er_var rfl))) tg_n (wp1 rfl) (fun _ _ h => h) (fun n' => (er_is (er_mul (er_var rfl) (er_powC (a := 10) (b := 39) (z := 1000000000000000000000000000000000000000) ⟨by decide, by decide, by decide⟩ (by decide))) rfl)))))) rfl) (Nat.le_of_ble_eq_true rfl) (fun counts' =>
    wo_drop_ (i := 2) (Nat.le_of_ble_eq_true rfl) <| wo_drop_ (i := 4) (Nat.le_of_ble_eq_true rfl) <| wo_nx rfl))
    (wo_if (et_is (et_t (er_is (er_lt (er_ix (er_var rfl) er_int) er_int) rfl)) rfl)
    (wo_seq (e1 := (up1 (fun (counts' : List Int) => [.no, .no, .im (en worlds'), .im (en drawn'), .im (en row'), .im (en world'), .ow (counts'.map en), .no, .no]))) (wo_for (as := fun (p : Int) => [(8, en p)]) (e := (up1 (fun (counts' : List Int) => [.no, .no, .im (en worlds'), .im (en drawn'), .im (en row'), .im (en world'), .ow (counts'.map en), .no, .no]))) (f := fun (w' : Int) => up1 (m_law_counts_l1 drawn' row' world' w')) (s0 := counts') (sr_r1 (er_var rfl)) tg_n rfl (fun w' counts' =>
    wo_if (et_is (et_t (er_is (er_eq (er_ix (er_var rfl) (er_var rfl)) (er_ix (er_var rfl) (er_var rfl))) rfl)) rfl)
    (wq_setO_ (i := 6) rfl (er_is (er_ix (er_var rfl) er_int) rfl) (er_is (er_var rfl) rfl) (fun counts' =>
    wo_drop_ (i := 8) (Nat.le_of_ble_eq_true rfl) <| wo_nx rfl))
    (wo_drop_ (i := 8) (Nat.le_of_ble_eq_true rfl) <| wo_nx rfl))) (fun counts' =>
    wo_drop_ (i := 2) (Nat.le_of_ble_eq_true rfl) <| wo_drop_ (i := 4) (Nat.le_of_ble_eq_true rfl) <| wo_nx rfl))
    (wo_drop_ (i := 2) (Nat.le_of_ble_eq_true rfl) <| wo_drop_ (i := 4) (Nat.le_of_ble_eq_true rfl) <| wo_nx rfl))) (fun counts' =>
    wo_seq (e1 := (up1 (fun (counts' : List Int) => [.no, .no, .no, .im (en drawn'), .no, .im (en world'), .ow (counts'.map en), .no, .no]))) (wo_if (et_is (et_t (er_is (er_eq (er_ix (er_var rfl) er_int) er_int) rfl)) rfl)
    (wq_setO_ (i := 6) rfl (er_is (er_add (er_powC (a := 10) (b := 40) (z := 10000000000000000000000000000000000000000) ⟨by decide, by decide, by decide⟩ (by decide)) (er_ix (er_var rfl) er_int)) rfl) (er_is (er_var rfl) rfl) (fun counts' =>
    wo_nx rfl))
    (wo_nx rfl)) (fun counts' =>
    wo_seq (e1 := (up1 (fun (counts' : List Int) => [.no, .no, .no, .no, .no, .no, .ow (counts'.map en), .no, .no]))) (wo_if (et_is (et_lentR (.no (.no (.no (.im (.no (.im (.ow (.no (.no .nil))))))))) (et_t (er_is (er_eq (er_sum (er_var rfl)) er_int) rfl))) rfl)
    (wq_setO_ (i := 6) rfl (er_is (er_add (er_ix (er_var rfl) er_int) er_int) rfl) (er_is (er_var rfl) rfl) (fun counts' =>
    wo_drop_ (i := 3) (Nat.le_of_ble_eq_true rfl) <| wo_drop_ (i := 5) (Nat.le_of_ble_eq_true rfl) <| wo_nx rfl))
    (wo_drop_ (i := 3) (Nat.le_of_ble_eq_true rfl) <| wo_drop_ (i := 5) (Nat.le_of_ble_eq_true rfl) <| wo_nx rfl)) (fun counts' =>
    wo_owcl (i := 6) rfl <| wo_retVC (i := 6) rfl)))))))))) (fun t => e_law_counts t.1 t.2.1) (.inl rfl)⟩)

theorem ok_law_gcd (F : Df K mg "_law_gcd" s_law_gcd ["first", "second"]) (gm : Gm K mg)  : FnG P w K mg base CX0 1 "_law_gcd" ["first", "second"] (spD K (fnP (τ := Int × Int × Unit) (kIm (γ := Int)) fun t => m_law_gcd t.1 t.2.1)) := by
  refine F.ok (k := 0) sc_law_gcd (fn_len fun _ => rfl) (fun f cdv A outer s H E hr => ⟨_,
    (pss_cons (ps_for PassesOwn.never rfl (pi_range1 (by rfl) gm.range (pa_cons pe_int pa_nil)) (gn 2 sc_law_gcd.nd) (pss_cons (ps_if (pt_cmpR (kEq K hr.units) (pv 1) pe_int (nomark _)) (pss_one (ps_ret (pv 0))) pss_nil) (pss_cons (sv 3 sc_law_gcd.nd (pe_op opMod (ct cInt gm.int (pa_cons (pv 0) pa_nil)) (pv 1))) (pss_cons (sv 0 sc_law_gcd.nd (pv 1)) (pss_cons (sv 1 sc_law_gcd.nd (pv 3)) pss_nil))))) (pss_one (ps_ret (pv 0)))),
    fn_w (fun t => [.im (en t.1), .im (en t.2.1), .no, .no]) (b := fun t => m_law_gcd_b t.1 t.2.1) (r0 := .no) (eS := fun _ (_ : Unit) => [.no, .no, .no, .no]) (eLL := fun _ (_ : Unit) => []) (fun _ => rfl) (fun ⟨first', second', _⟩ =>
    wo_seq (e1 := (up2 (fun (first' : Int) (second' : Int) => [.im (en first'), .im (en second'), .no, .no]))) (wo_for (as := fun (p : Int) => [(2, en p)]) (e := (up2 (fun (first' : Int) (second' : Int) => [.im (en first'), .im (en second'), .no, .no]))) (f := fun (k' : Int) => up2 (m_law_gcd_l1 k')) (s0 := (first', second')) (sr_r1 er_int) tg_n rfl (fun k' ⟨first', second'⟩ =>
    wq_ifx (et_is (et_t (er_is (er_eq (er_var rfl) er_int) rfl)) rfl)
    (wo_is (wo_ret (er_is (er_var rfl) rfl)) rfl)
    (wq_asg_ (er_is (er_mod (er_toint (er_var rfl)) (er_var rfl)) rfl) (fun rest' =>
    wq_asg_ (er_is (er_var rfl) rfl) (fun first' =>
    wq_asg_ (er_is (er_var rfl) rfl) (fun second' =>
    wo_drop_ (i := 2) (Nat.le_of_ble_eq_true rfl) <| wo_drop_ (i := 3) (Nat.le_of_ble_eq_true rfl) <| wo_nx rfl)))))) (fun ⟨first', second'⟩ =>
    wo_drop_ (i := 1) (Nat.le_of_ble_eq_true rfl) <| wo_is (wo_ret (er_is (er_var rfl) rfl)) rfl)) (fun t => e_law_gcd t.1 t.2.1) (.inl rfl)⟩)

theorem ok_law_ratio (F : Df K mg "_law_ratio" s_law_ratio ["n", "d"]) (gm : Gm K mg)  (G_law_gcd : FnG P w K mg base CX0 1 "_law_gcd" ["first", "second"] (spD K (fnP (τ := Int × Int × Unit) (kIm (γ := Int)) fun t => m_law_gcd t.1 t.2.1))) : FnG P w K mg base CX0 2 "_law_ratio" ["n", "d"] (spD K (fnP (τ := Int × Int × Unit) (kIm (γ := (Int × Int))) fun t => m_law_ratio t.1 t.2.1)) := by
  refine F.ok (k := 1) sc_law_ratio (fn_len fun _ => rfl) (fun f cdv A outer s H E hr => ⟨_,
    (pss_cons (sv 2 sc_law_ratio.nd (pe_g G_law_gcd hr.le pass0 (pa_cons (cb cAbs gm.abs (pa_cons (pv 0) pa_nil)) (pa_cons (pv 1) pa_nil)))) (pss_one (ps_ret (pe_tup (pa_cons (pe_op opDiv (pv 0) (pv 2)) (pa_cons (pe_op opDiv (pv 1) (pv 2)) pa_nil)))))),
    fn_w (fun t => [.im (en t.1), .im (en t.2.1), .no]) (b := fun t => m_law_ratio_b t.1 t.2.1) (r0 := .no) (eS := fun _ (_ : Unit) => [.no, .no, .no]) (eLL := fun _ (_ : Unit) => []) (fun _ => rfl) (fun ⟨n', d', _⟩ =>
    wq_asg_ (er_is (er_call (ea_c (er_abs (er_var rfl)) (ea_c (er_var rfl) ea_n))) rfl) (fun common' =>
    wo_is (wo_ret (er_is (er_tup2 (ea_c (er_div (er_var rfl) (er_var rfl)) (ea_c (er_div (er_var rfl) (er_var rfl)) ea_n))) rfl)) rfl)) (fun t => e_law_ratio t.1 t.2.1) (.inl rfl)⟩)

theorem ok_law_spoil_start (F : Df K mg "_law_spoil_start" s_law_spoil_start ["start", "drawn"]) (gm : Gm K mg)  (G_law_ratio : FnG P w K mg base CX0 2 "_law_ratio" ["n", "d"] (spD K (fnP (τ := Int × Int × Unit) (kIm (γ := (Int × Int))) fun t => m_law_ratio t.1 t.2.1))) : FnG P w K mg base CX0 3 "_law_spoil_start" ["start", "drawn"] (spM K (fnM (α := (Int × Int)) (τ := (List Int) × Unit) fun t => m_law_spoil_start t.1 t.2.1)) := by
  refine F.okM (k := 2) sc_law_spoil_start (fnM_len fun _ => rfl) (fun f cdv A outer s H E hr => ⟨_,
    (pss_cons (sv 2 sc_law_spoil_start.nd (pe_op opMod (ct cInt gm.int (pa_cons (ix K (pv 1) pe_int) pa_nil)) (cb (kLen K) gm.len (pa_cons (pv 0) pa_nil)))) (pss_cons (sv 3 sc_law_spoil_start.nd (pe_op opMod (ct cInt gm.int (pa_cons (ix K (pv 1) pe_int) pa_nil)) (cb (kLen K) gm.len (pa_cons (pv 0) pa_nil)))) (pss_one (ps_if (pt_cmpR (kEq K hr.units) (ix K (pv 1) pe_int) pe_int (nomark _)) (pss_cons (ps_expr (ml_append K (pv 0) (pa_cons (pe_tup (pa_cons pe_int (pa_cons pe_int pa_nil))) pa_nil))) pss_nil) (pss_one (ps_if (pt_cmpR (kEq K hr.units) (ix K (pv 1) pe_int) pe_int (nomark _)) (pss_cons (ps_expr (pe_bm PySem.F.plainAttrs_list PySem.F.slot_list_pop PySem.F.type_list_pop mt_popAt (pv 0) (pa_cons (pv 2) pa_nil))) pss_nil) (pss_one (ps_if (pt_cmpR (kEq K hr.units) (ix K (pv 1) pe_int) pe_int (nomark _)) (pss_cons (ps_asg (pe_g G_law_ratio hr.le pass0 (pa_cons (pe_op (kAdd K) (pe_op opMul (ix K (ix K (pv 0) (pv 2)) pe_int) (pe_op opPow pe_int pe_int)) (pe_op opMul (pe_op opSub (pe_op opMul pe_int (ix K (pv 1) pe_int)) pe_int) (ix K (ix K (pv 0) (pv 2)) pe_int))) (pa_cons (pe_op opMul (ix K (ix K (pv 0) (pv 2)) pe_int) (pe_op opPow pe_int pe_int)) pa_nil))) (pg_sub (pv 0) (pv 2) set_list)) pss_nil) (pss_one (ps_if (pt_cmpR (kEq K hr.units) (ix K (pv 1) pe_int) pe_int (nomark _)) (pss_cons (ps_asg (pe_tup (pa_cons (pe_op opSub (ix K (ix K (pv 0) (pv 2)) pe_int) (pe_op opMul pe_int (ix K (ix K (pv 0) (pv 2)) pe_int))) (pa_cons (ix K (ix K (pv 0) (pv 2)) pe_int) pa_nil))) (pg_sub (pv 0) (pv 2) set_list)) (pss_cons (ps_asg (pe_tup (pa_cons (pe_op (kAdd K) (ix K (ix K (pv 0) (pv 3)) pe_int) (pe_op opMul pe_int (ix K (ix K (pv 0) (pv 3)) pe_int))) (pa_cons (ix K (ix K (pv 0) (pv 3)) pe_int) pa_nil))) (pg_sub (pv 0) (pv 3) set_list)) pss_nil)) (pss_cons (ps_for PassesOwn.never rfl (pi_range1 (by rfl) gm.range (pa_cons (cb (kLen K) gm.len (pa_cons (pv 0) pa_nil)) pa_nil)) (gn 4 sc_law_spoil_start.nd) (pss_cons (ps_asg (pe_g G_law_ratio hr.le pass0 (pa_cons (pe_op opMul (pe_op opMul (ix K (ix K (pv 0) (pv 4)) pe_int) pe_int) (ix K (pv 1) pe_int)) (pa_cons (ix K (ix K (pv 0) (pv 4)) pe_int) pa_nil))) (pg_sub (pv 0) (pv 4) set_list)) pss_nil)) pss_nil))))))))))),
    fn_wM (b := fun t => m_law_spoil_start_b t.1 t.2.1) (N := N_law_spoil_start) (fun a_ t => [slA a_ t.1, .im (en t.2.1), .no, .no, .no]) (eS := fun a_ _ s => [slA a_ s, .no, .no, .no, .no]) (eLL := fun _ _ (_ : Unit) => []) (k := kIm (γ := Unit)) (fun _ _ => rfl) (fun _ _ _ => rfl) (fun a_ ⟨start', drawn', _⟩ =>
    wq_asg_ (er_is (er_lentS (.slA (.im (.no (.no (.no .nil))))) (er_mod (er_toint (er_ix (er_var rfl) er_int)) (er_len (er_var rfl)))) rfl) (fun at' =>
    wq_asg_ (er_is (er_lentS (.slA (.im (.im (.no (.no .nil))))) (er_mod (er_toint (er_ix (er_var rfl) er_int)) (er_len (er_var rfl)))) rfl) (fun other' =>
    wo_if (et_is (et_t (er_is (er_eq (er_ix (er_var rfl) er_int) er_int) rfl)) rfl)
    (wq_appA (i := 0) rfl (ec_isR (ec_scR (er_tup2 (ea_c er_int (ea_c er_int ea_n)))) rfl) (fun start' =>
    wo_drop_ (i := 1) (Nat.le_of_ble_eq_true rfl) <| wo_drop_ (i := 2) (Nat.le_of_ble_eq_true rfl) <| wo_drop_ (i := 3) (Nat.le_of_ble_eq_true rfl) <| wo_nx rfl))
    (wo_if (et_is (et_t (er_is (er_eq (er_ix (er_var rfl) er_int) er_int) rfl)) rfl)
    (wq_popAtA (i := 0) rfl (er_is (er_var rfl) rfl) (fun start' =>
    wo_drop_ (i := 1) (Nat.le_of_ble_eq_true rfl) <| wo_drop_ (i := 2) (Nat.le_of_ble_eq_true rfl) <| wo_drop_ (i := 3) (Nat.le_of_ble_eq_true rfl) <| wo_nx rfl))
    (wo_if (et_is (et_t (er_is (er_eq (er_ix (er_var rfl) er_int) er_int) rfl)) rfl)
    (wq_setA_ (i := 0) rfl (ec_isR (ec_lentR (.slA (.im (.im (.im (.no .nil))))) (ec_scR (er_call (ea_c (er_add (er_mul (er_p1 (er_ix (er_var rfl) (er_var rfl))) (er_powC (a := 10) (b := 30) (z := 1000000000000000000000000000000) ⟨by decide, by decide, by decide⟩ (by decide))) (er_mul (er_sub (er_mulL er_int (er_ix (er_var rfl) er_int) (by decide)) er_int) (er_p2 (er_ix (er_var rfl) (er_var rfl))))) (ea_c (er_mul (er_p2 (er_ix (er_var rfl) (er_var rfl))) (er_powC (a := 10) (b := 30) (z := 1000000000000000000000000000000) ⟨by decide, by decide, by decide⟩ (by decide))) ea_n))))) rfl) (er_is (er_var rfl) rfl) (fun start' =>
    wo_drop_ (i := 1) (Nat.le_of_ble_eq_true rfl) <| wo_drop_ (i := 2) (Nat.le_of_ble_eq_true rfl) <| wo_drop_ (i := 3) (Nat.le_of_ble_eq_true rfl) <| wo_nx rfl))
    (wo_if (et_is (et_t (er_is (er_eq (er_ix (er_var rfl) er_int) er_int) rfl)) rfl)
    (wq_setA_ (i := 0) rfl (ec_isR (ec_lentR (.slA (.im (.im (.im (.no .nil))))) (ec_scR (er_tup2 (ea_c (er_sub (er_p1 (er_ix (er_var rfl) (er_var rfl))) (er_mulL er_int (er_p2 (er_ix (er_var rfl) (er_var rfl))) (by decide))) (ea_c (er_p2 (er_ix (er_var rfl) (er_var rfl))) ea_n))))) rfl) (er_is (er_var rfl) rfl) (fun start' =>
    wq_setA_ (i := 0) rfl (ec_isR (ec_lentR (.slA (.im (.im (.im (.no .nil))))) (ec_scR (er_tup2 (ea_c (er_add (er_p1 (er_ix (er_var rfl) (er_var rfl))) (er_mulL er_int (er_p2 (er_ix (er_var rfl) (er_var rfl))) (by decide))) (ea_c (er_p2 (er_ix (er_var rfl) (er_var rfl))) ea_n))))) rfl) (er_is (er_var rfl) rfl) (fun start' =>
    wo_drop_ (i := 1) (Nat.le_of_ble_eq_true rfl) <| wo_drop_ (i := 2) (Nat.le_of_ble_eq_true rfl) <| wo_drop_ (i := 3) (Nat.le_of_ble_eq_true rfl) <| wo_nx rfl)))
    (wo_drop_ (i := 2) (Nat.le_of_ble_eq_true rfl) <| wo_drop_ (i := 3) (Nat.le_of_ble_eq_true rfl) <| wo_seq (e1 := (up1 (fun (start' : List (Int × Int)) => [slA a_ start', .im (en drawn'), .no, .no, .no]))) (wo_for (as := fun (p : Int) => [(4, en p)]) (e := (up1 (fun (start' : List (Int × Int)) => [slA a_ start', .im (en drawn'), .no, .no, .no]))) (f := fun (w' : Int) => up1 (m_law_spoil_start_l1 drawn' w')) (s0 := start') (sr_r1 (er_lentS (.slA (.im (.no (.no (.no .nil))))) (er_len (er_var rfl)))) tg_n rfl (fun w' start' =>
    wq_setA_ (i := 0) rfl (ec_isR (ec_lentR (.slA (.im (.no (.no (.im .nil))))) (ec_scR (er_call (ea_c (er_mul (er_mulR (er_p1 (er_ix (er_var rfl) (er_var rfl))) er_int (by decide)) (er_ix (er_var rfl) er_int)) (ea_c (er_p2 (er_ix (er_var rfl) (er_var rfl))) ea_n))))) rfl) (er_is (er_var rfl) rfl) (fun start' =>
    wo_drop_ (i := 4) (Nat.le_of_ble_eq_true rfl) <| wo_nx rfl))) (fun start' =>
    wo_drop_ (i := 1) (Nat.le_of_ble_eq_true rfl) <| wo_nx rfl)))))))) (fun t => e_law_spoil_start t.1 t.2.1)⟩)

theorem ok_law_spoil_sights (F : Df K mg "_law_spoil_sights" s_law_spoil_sights ["sights", "drawn"]) (gm : Gm K mg)  : FnG P w K mg base CX0 1 "_law_spoil_sights" ["sights", "drawn"] (spM K (fnM (α := List Int) (τ := (List Int) × Unit) fun t => m_law_spoil_sights t.1 t.2.1)) := by
  refine F.okM (k := 0) sc_law_spoil_sights (fnM_len fun _ => rfl) (fun f cdv A outer s H E hr => ⟨_,
    (pss_cons (sv 2 sc_law_spoil_sights.nd (pe_op opMod (ct cInt gm.int (pa_cons (ix K (pv 1) pe_int) pa_nil)) (cb (kLen K) gm.len (pa_cons (pv 0) pa_nil)))) (pss_cons (sv 3 sc_law_spoil_sights.nd (pe_op opMod (ct cInt gm.int (pa_cons (ix K (pv 1) pe_int) pa_nil)) (cb (kLen K) gm.len (pa_cons (ix K (pv 0) pe_int) pa_nil)))) (pss_one (ps_if (pt_cmpR (kEq K hr.units) (ix K (pv 1) pe_int) pe_int (nomark _)) (pss_cons (ps_expr (pe_bm0 PySem.F.plainAttrs_list PySem.F.slot_list_clear PySem.F.type_list_clear mt_clear (pv 0))) pss_nil) (pss_one (ps_if (pt_cmpR (kEq K hr.units) (ix K (pv 1) pe_int) pe_int (nomark _)) (pss_cons (ps_for PassesOwn.never rfl (pi_range1 (by rfl) gm.range (pa_cons (cb (kLen K) gm.len (pa_cons (pv 0) pa_nil)) pa_nil)) (gn 4 sc_law_spoil_sights.nd) (pss_cons (ps_asg (pe_lst pa_nil) (pg_sub (pv 0) (pv 4) set_list)) pss_nil)) pss_nil) (pss_one (ps_if (pt_cmpR (kEq K hr.units) (ix K (pv 1) pe_int) pe_int (nomark _)) (pss_cons (ps_for PassesOwn.never rfl (pi_range1 (by rfl) gm.range (pa_cons (pe_op opSub (pe_op (kAdd K) pe_int (ix K (pv 1) pe_int)) (cb (kLen K) gm.len (pa_cons (pv 0) pa_nil))) pa_nil)) (gn 4 sc_law_spoil_sights.nd) (pss_cons (ps_expr (ml_append K (pv 0) (pa_cons (ct (kList K) gm.list (pa_cons (ix K (pv 0) (pv 2)) pa_nil)) pa_nil))) pss_nil)) pss_nil) (pss_one (ps_if (pt_cmpR (kEq K hr.units) (ix K (pv 1) pe_int) pe_int (nomark _)) (pss_cons (ps_for PassesOwn.never rfl (pi_range1 (by rfl) gm.range (pa_cons (cb (kLen K) gm.len (pa_cons (pv 0) pa_nil)) pa_nil)) (gn 4 sc_law_spoil_sights.nd) (pss_cons (ps_asg (pe_op (kAdd K) (ix K (pv 0) (pv 4)) (pe_lc (own := [("j", 5)]) rfl sc_law_spoil_sights.nd (pi_range1 (by rfl) gm.range (pa_cons (pe_op opSub (pe_op (kAdd K) pe_int (ix K (pv 1) pe_int)) (cb (kLen K) gm.len (pa_cons (ix K (pv 0) (pv 4)) pa_nil))) pa_nil)) (blkOk_by (N := N_law_spoil_sights) (sc := defScope s_law_spoil_sights) (by decide +kernel)) (fun _ _ _ _ _ => (gn 5 sc_law_spoil_sights.nd)) (fun _ _ _ _ _ => pts_nil) (fun _ _ _ _ _ => pe_int))) (pg_sub (pv 0) (pv 4) set_list)) pss_nil)) pss_nil) (pss_one (ps_if (pt_cmpR (kEq K hr.units) (ix K (pv 1) pe_int) pe_int (nomark _)) (pss_cons (ps_asg (pe_op (kAdd K) (ix K (pv 0) (pv 2)) (pe_lst (pa_cons pe_int pa_nil))) (pg_sub (pv 0) (pv 2) set_list)) pss_nil) (pss_one (ps_if (pt_cmpR (kEq K hr.units) (ix K (pv 1) pe_int) pe_int (nomark _)) (pss_cons (ps_asg (pe_slice sl_list (ix K (pv 0) (pv 2)) (po_some pe_int) po_none) (pg_sub (pv 0) (pv 2) set_list)) pss_nil) (pss_cons (ps_asg (ix K (pe_lst (pa_cons pe_int (pa_cons (pe_un unNeg pe_int) pa_nil))) (ix K (pv 1) pe_int)) (pg_sub (ix K (pv 0) (pv 2)) (pv 3) set_list)) pss_nil))))))))))))))),
    fn_wM (b := fun t => m_law_spoil_sights_b t.1 t.2.1) (N := N_law_spoil_sights) (fun a_ t => [slA a_ t.1, .im (en t.2.1), .no, .no, .no, .no]) (eS := fun a_ _ s => [slA a_ s, .no, .no, .no, .no, .no]) (eLL := fun _ _ (_ : Unit) => []) (k := kIm (γ := Unit)) (fun _ _ => rfl) (fun _ _ _ => rfl) (fun a_ ⟨sights', drawn', _⟩ =>
    wq_asg_ (er_is (er_lentS (.slA (.im (.no (.no (.no (.no .nil)))))) (er_mod (er_toint (er_ix (er_var rfl) er_int)) (er_len (er_var rfl)))) rfl) (fun person' =>
    wq_asg_ (er_is (er_lentS (.slA (.im (.im (.no (.no (.no .nil)))))) (er_mod (er_toint (er_ix (er_var rfl) er_int)) (er_len (er_ix (er_var rfl) er_int)))) rfl) (fun world' =>
    wo_if (et_is (et_t (er_is (er_eq (er_ix (er_var rfl) er_int) er_int) rfl)) rfl)
    (wq_clrA (i := 0) rfl (fun sights' =>
    wo_drop_ (i := 1) (Nat.le_of_ble_eq_true rfl) <| wo_drop_ (i := 2) (Nat.le_of_ble_eq_true rfl) <| wo_drop_ (i := 3) (Nat.le_of_ble_eq_true rfl) <| wo_nx rfl))
    (wo_if (et_is (et_t (er_is (er_eq (er_ix (er_var rfl) er_int) er_int) rfl)) rfl)
    (wo_drop_ (i := 1) (Nat.le_of_ble_eq_true rfl) <| wo_drop_ (i := 2) (Nat.le_of_ble_eq_true rfl) <| wo_drop_ (i := 3) (Nat.le_of_ble_eq_true rfl) <| wo_seq (e1 := (up1 (fun (sights' : List (List Int)) => [slA a_ sights', .no, .no, .no, .no, .no]))) (wo_for (as := fun (p : Int) => [(4, en p)]) (e := (up1 (fun (sights' : List (List Int)) => [slA a_ sights', .no, .no, .no, .no, .no]))) (f := fun (k' : Int) => up1 (m_law_spoil_sights_l1 k')) (s0 := sights') (sr_r1 (er_lentS (.slA (.no (.no (.no (.no (.no .nil)))))) (er_len (er_var rfl)))) tg_n rfl (fun k' sights' =>
    wq_setA_ (i := 0) rfl (ec_isR (ec_lstR ecl_n) rfl) (er_is (er_var rfl) rfl) (fun sights' =>
    wo_drop_ (i := 4) (Nat.le_of_ble_eq_true rfl) <| wo_nx rfl))) (fun sights' =>
    wo_nx rfl))
    (wo_if (et_is (et_t (er_is (er_eq (er_ix (er_var rfl) er_int) er_int) rfl)) rfl)
    (wo_drop_ (i := 3) (Nat.le_of_ble_eq_true rfl) <| wo_seq (e1 := (up1 (fun (sights' : List (List Int)) => [slA a_ sights', .im (en drawn'), .im (en person'), .no, .no, .no]))) (wo_for (as := fun (p : Int) => [(4, en p)]) (e := (up1 (fun (sights' : List (List Int)) => [slA a_ sights', .im (en drawn'), .im (en person'), .no, .no, .no]))) (f := fun (k' : Int) => up1 (m_law_spoil_sights_l2 person' k')) (s0 := sights') (sr_r1 (er_lentS (.slA (.im (.im (.no (.no (.no .nil)))))) (er_sub (er_add er_int (er_ix (er_var rfl) er_int)) (er_len (er_var rfl))))) tg_n rfl (fun k' sights' =>
    wq_appA (i := 0) rfl (ec_isR (ec_lentR (.slA (.im (.im (.no (.im (.no .nil)))))) (ec_owR (eo_list (er_ix (er_var rfl) (er_var rfl))))) rfl) (fun sights' =>
    wo_drop_ (i := 4) (Nat.le_of_ble_eq_true rfl) <| wo_nx rfl))) (fun sights' =>
    wo_drop_ (i := 1) (Nat.le_of_ble_eq_true rfl) <| wo_drop_ (i := 2) (Nat.le_of_ble_eq_true rfl) <| wo_nx rfl))
    (wo_if (et_is (et_t (er_is (er_eq (er_ix (er_var rfl) er_int) er_int) rfl)) rfl)
    (wo_drop_ (i := 2) (Nat.le_of_ble_eq_true rfl) <| wo_drop_ (i := 3) (Nat.le_of_ble_eq_true rfl) <| wo_seq (e1 := (up1 (fun (sights' : List (List Int)) => [slA a_ sights', .im (en drawn'), .no, .no, .no, .no]))) (wo_for (as := fun (p : Int) => [(4, en p)]) (e := (up1 (fun (sights' : List (List Int)) => [slA a_ sights', .im (en drawn'), .no, .no, .no, .no]))) (f := fun (k' : Int) => up1 (m_law_spoil_sights_l3 drawn' k')) (s0 := sights') (sr_r1 (er_lentS (.slA (.im (.no (.no (.no (.no .nil)))))) (er_len (er_var rfl)))) tg_n rfl (fun k' sights' =>
    wq_setA_ (i := 0) rfl (ec_isR (ec_lentR (.slA (.im (.no (.no (.im (.no .nil)))))) (ec_owR (eo_add (er_ix (er_var rfl) (er_var rfl)) (er_fzO (eo_lcP (as := fun (p : Int) => [(5, en p)]) (vs := [5]) (f := fun (j' : Int) => 0) (sw_d (sr_r1 (er_sub (er_add er_int (er_ix (er_var rfl) er_int)) (er_len (er_ix (er_var rfl) (er_var rfl)))))) tg_n (wp1 rfl) (fun _ _ h => h) (fun j' => (er_is er_int rfl))))))) rfl) (er_is (er_var rfl) rfl) (fun sights' =>
    wo_drop_ (i := 4) (Nat.le_of_ble_eq_true rfl) <| wo_nx rfl))) (fun sights' =>
    wo_drop_ (i := 1) (Nat.le_of_ble_eq_true rfl) <| wo_nx rfl))
    (wo_if (et_is (et_t (er_is (er_eq (er_ix (er_var rfl) er_int) er_int) rfl)) rfl)
    (wq_setA_ (i := 0) rfl (ec_isR (ec_lentR (.slA (.im (.im (.im (.no (.no .nil)))))) (ec_owR (eo_add (er_ix (er_var rfl) (er_var rfl)) (er_fzO (eo_lst (el_c er_int el_n)))))) rfl) (er_is (er_var rfl) rfl) (fun sights' =>
    wo_drop_ (i := 1) (Nat.le_of_ble_eq_true rfl) <| wo_drop_ (i := 2) (Nat.le_of_ble_eq_true rfl) <| wo_drop_ (i := 3) (Nat.le_of_ble_eq_true rfl) <| wo_nx rfl))
    (wo_if (et_is (et_t (er_is (er_eq (er_ix (er_var rfl) er_int) er_int) rfl)) rfl)
    (wq_setA_ (i := 0) rfl (ec_isR (ec_lentR (.slA (.im (.im (.im (.no (.no .nil)))))) (ec_owR (eo_slF (er_ix (er_var rfl) (er_var rfl)) er_int))) rfl) (er_is (er_var rfl) rfl) (fun sights' =>
    wo_drop_ (i := 1) (Nat.le_of_ble_eq_true rfl) <| wo_drop_ (i := 2) (Nat.le_of_ble_eq_true rfl) <| wo_drop_ (i := 3) (Nat.le_of_ble_eq_true rfl) <| wo_nx rfl))
    (wq_setA1 (i := 0) rfl (ec_isR (ec_scR (er_ix (er_fzO (eo_lst (el_c er_int (el_c (er_neg er_int) el_n)))) (er_ix (er_var rfl) er_int))) rfl) (er_is (er_var rfl) rfl) (er_is (er_var rfl) rfl) (fun sights' =>
    wo_drop_ (i := 1) (Nat.le_of_ble_eq_true rfl) <| wo_drop_ (i := 2) (Nat.le_of_ble_eq_true rfl) <| wo_drop_ (i := 3) (Nat.le_of_ble_eq_true rfl) <| wo_nx rfl)))))))))) (fun t => e_law_spoil_sights t.1 t.2.1)⟩)

theorem ok_law_fits (F : Df K mg "_law_fits" s_law_fits ["sights"]) (gm : Gm K mg)  : FnG P w K mg base CX0 1 "_law_fits" ["sights"] (spD K (fnP (τ := (List (List Int)) × Unit) (kIm (γ := Bool)) fun t => m_law_fits t.1)) := by
  refine F.ok (k := 0) sc_law_fits (fn_len fun _ => rfl) (fun f cdv A outer s H E hr => ⟨_,
    (pss_cons (ps_if (PW.pt (pw_or (pt_cmpR opLt (cb (kLen K) gm.len (pa_cons (pv 0) pa_nil)) pe_int (nomark _)) (pw_or (pt_cmpR opGt (cb (kLen K) gm.len (pa_cons (pv 0) pa_nil)) pe_int (nomark _)) (pw_or (pt_cmpR opLt (cb (kLen K) gm.len (pa_cons (ix K (pv 0) pe_int) pa_nil)) pe_int (nomark _)) (pw_or1 (pt_cmpR opGt (cb (kLen K) gm.len (pa_cons (ix K (pv 0) pe_int) pa_nil)) pe_int (nomark _))))))) (pss_one (ps_ret pe_bl)) pss_nil) (pss_cons (ps_for PassesOwn.never rfl (pl K (pv 0)) (gn 1 sc_law_fits.nd) (pss_one (ps_if (PW.pt (pw_or (pt_cmpR (kNe K hr.units) (cb (kLen K) gm.len (pa_cons (pv 1) pa_nil)) (cb (kLen K) gm.len (pa_cons (ix K (pv 0) pe_int) pa_nil)) (nomark _)) (pw_or (pt_cmpR opLt (cb (kMin K rfl) gm.min (pa_cons (pv 1) pa_nil)) pe_int (nomark _)) (pw_or1 (pt_cmpR opGt (cb (kMax K rfl) gm.max (pa_cons (pv 1) pa_nil)) pe_int (nomark _)))))) (pss_one (ps_ret pe_bl)) pss_nil))) (pss_one (ps_ret pe_bl)))),
    fn_w (fun t => [.im (en t.1), .no]) (b := fun t => m_law_fits_b t.1) (r0 := .no) (eS := fun _ (_ : Unit) => [.no, .no]) (eLL := fun _ (_ : Unit) => []) (fun _ => rfl) (fun ⟨sights', _⟩ =>
    wq_ifx (et_is (et_orR (et_is (et_t (er_is (er_lt (er_len (er_var rfl)) er_int) rfl)) rfl) (et_is (et_orR (et_is (et_t (er_is (er_gt (er_len (er_var rfl)) er_int) rfl)) rfl) (et_is (et_orR (et_is (et_t (er_is (er_lt (er_len (er_ix (er_var rfl) er_int)) er_int) rfl)) rfl) (et_is (et_t (er_is (er_gt (er_len (er_ix (er_var rfl) er_int)) er_int) rfl)) rfl)) rfl)) rfl)) rfl)
    (wo_is (wo_ret (er_is er_bl rfl)) rfl)
    (wo_seq (e1 := (up0 [.im (en sights'), .no])) (wo_for (as := fun (p : List Int) => [(1, en p)]) (e := (up0 [.im (en sights'), .no])) (f := fun (row' : List Int) => up0 (m_law_fits_l1 sights' row')) (s0 := ()) (sr_l (er_var rfl)) tg_n rfl (fun row' _ =>
    wo_if (et_is (et_orR (et_is (et_t (er_is (er_ne (er_len (er_var rfl)) (er_len (er_ix (er_var rfl) er_int))) rfl)) rfl) (et_is (et_orR (et_is (et_t (er_is (er_lt (er_min (er_var rfl)) er_int) rfl)) rfl) (et_is (et_t (er_is (er_gt (er_max (er_var rfl)) er_int) rfl)) rfl)) rfl)) rfl)
    (wo_is (wo_ret (er_is er_bl rfl)) rfl)
    (wo_drop_ (i := 1) (Nat.le_of_ble_eq_true rfl) <| wo_nx rfl))) (fun _ =>
    wo_drop_ (i := 0) (Nat.le_of_ble_eq_true rfl) <| wo_is (wo_ret (er_is er_bl rfl)) rfl))) (fun t => e_law_fits t.1) (.inl rfl)⟩)

theorem ok_law_numbered (F : Df K mg "_law_numbered" s_law_numbered ["labels"]) (gm : Gm K mg)  : FnG P w K mg base CX0 1 "_law_numbered" ["labels"] (spD K (fnP (τ := (List Int) × Unit) (kCl (γ := (List Int))) fun t => m_law_numbered t.1)) := by
  refine F.ok (k := 0) sc_law_numbered (fn_len fun _ => rfl) (fun f cdv A outer s H E hr => ⟨_,
    (pss_cons (sv 1 sc_law_numbered.nd (pe_lst pa_nil)) (pss_cons (ps_for PassesOwn.never rfl (pl K (pv 0)) (gn 2 sc_law_numbered.nd) (pss_one (ps_if (pt_cmpR (kNotIn K) (pv 2) (pv 1) (by rfl)) (pss_cons (ps_expr (ml_append K (pv 1) (pa_cons (pv 2) pa_nil))) pss_nil) pss_nil))) (pss_one (ps_ret (pe_lc (own := [("label", 2)]) rfl sc_law_numbered.nd (pl K (pv 0)) (blkOk_by (N := N_law_numbered) (sc := defScope s_law_numbered) (by decide +kernel)) (fun _ _ _ _ _ => (gn 2 sc_law_numbered.nd)) (fun _ _ _ _ _ => pts_nil) (fun _ _ _ _ _ => (pe_bm PySem.F.plainAttrs_list PySem.F.slot_list_index PySem.F.type_list_index (mt_indexD hr.units65) (pv 1) (pa_cons (pv 2) pa_nil)))))))),
    fn_w (fun t => [.im (en t.1), .no, .no]) (b := fun t => m_law_numbered_b t.1) (r0 := .no) (eS := fun _ (_ : Unit) => [.no, .no, .no]) (eLL := fun _ (_ : Unit) => []) (fun _ => rfl) (fun ⟨labels', _⟩ =>
    wq_asgO_ (eo_is (eo_lst (el_n (α := Int))) rfl) (Nat.le_of_ble_eq_true rfl) (fun seen' =>
    wo_seq (e1 := (up1 (fun (seen' : List Int) => [.im (en labels'), .ow (seen'.map en), .no]))) (wo_for (as := fun (p : Int) => [(2, en p)]) (e := (up1 (fun (seen' : List Int) => [.im (en labels'), .ow (seen'.map en), .no]))) (f := fun (label' : Int) => up1 (m_law_numbered_l1 label')) (s0 := seen') (sr_l (er_var rfl)) tg_n rfl (fun label' seen' =>
    wo_if (et_is (et_lentR (.im (.ow (.im .nil))) (et_t (er_is (er_notin (er_var rfl) (er_var rfl)) rfl))) rfl)
    (wq_appO_ (i := 1) rfl (er_is (er_var rfl) rfl) (fun seen' =>
    wo_drop_ (i := 2) (Nat.le_of_ble_eq_true rfl) <| wo_nx rfl))
    (wo_drop_ (i := 2) (Nat.le_of_ble_eq_true rfl) <| wo_nx rfl))) (fun seen' =>
    wo_fzO (i := 1) rfl <| wo_is (wo_retC (ec_isR (ec_owR (eo_lcR (as := fun (p : Int) => [(2, en p)]) (vs := [2]) (f := fun (label' : Int) => indexL seen' label') (sw_d (sr_l (er_var rfl))) tg_n (wp1 rfl) (fun _ _ h => h) (fun label' => (er_is (er_index (er_var rfl) (er_var rfl)) rfl)))) rfl)) rfl))) (fun t => e_law_numbered t.1) (.inl rfl)⟩)

theorem ok_law_lowest (F : Df K mg "_law_lowest" s_law_lowest ["cells", "weights"]) (gm : Gm K mg)  (G_law_gcd : FnG P w K mg base CX0 1 "_law_gcd" ["first", "second"] (spD K (fnP (τ := Int × Int × Unit) (kIm (γ := Int)) fun t => m_law_gcd t.1 t.2.1))) : FnG P w K mg base CX0 2 "_law_lowest" ["cells", "weights"] (spD K (fnP (τ := (List (List Int)) × (List Int) × Unit) (kIm (γ := Dy)) fun t => m_law_lowest t.1 t.2.1)) := by
  refine F.ok (k := 1) sc_law_lowest (fn_len fun _ => rfl) (fun f cdv A outer s H E hr => ⟨_,
    (pss_cons (sv 2 sc_law_lowest.nd (ct (kList K) gm.list (pa_cons (pv 1) pa_nil))) (pss_cons (ps_for PassesOwn.never rfl (pl K (pv 0)) (gn 3 sc_law_lowest.nd) (pss_cons (sv 4 sc_law_lowest.nd pe_int) (pss_cons (ps_for PassesOwn.never rfl (pl K (pv 3)) (gn 5 sc_law_lowest.nd) (pss_cons (sv 4 sc_law_lowest.nd (pe_g G_law_gcd hr.le pass0 (pa_cons (pv 4) (pa_cons (ix K (pv 1) (pv 5)) pa_nil)))) pss_nil)) (pss_cons (ps_if (pt_cmpR (kEq K hr.units) (pv 4) pe_int (nomark _)) (pss_one (ps_ret (ix K (pv 3) pe_int))) pss_nil) (pss_cons (ps_for PassesOwn.never rfl (pl K (pv 3)) (gn 5 sc_law_lowest.nd) (pss_cons (ps_asg (pe_op opDiv (ix K (pv 1) (pv 5)) (pv 4)) (pg_sub (pv 2) (pv 5) set_list)) pss_nil)) pss_nil))))) (pss_one (ps_ret (pv 2))))),
    fn_w (fun t => [.im (en t.1), .im (en t.2.1), .no, .no, .no, .no]) (b := fun t => m_law_lowest_b t.1 t.2.1) (r0 := .no) (eS := fun _ (_ : Unit) => [.no, .no, .no, .no, .no, .no]) (eLL := fun _ (_ : Unit) => []) (fun _ => rfl) (fun ⟨cells', weights', _⟩ =>
    wq_asgO_ (eo_is (eo_list (er_var rfl)) rfl) (Nat.le_of_ble_eq_true rfl) (fun told' =>
    wo_seq (e1 := (up1 (fun (told' : List Int) => [.im (en cells'), .im (en weights'), .ow (told'.map en), .no, .no, .no]))) (wo_for (as := fun (p : List Int) => [(3, en p)]) (e := (up1 (fun (told' : List Int) => [.im (en cells'), .im (en weights'), .ow (told'.map en), .no, .no, .no]))) (f := fun (cell' : List Int) => up1 (m_law_lowest_l1 weights' cell')) (s0 := told') (sr_l (er_var rfl)) tg_n rfl (fun cell' told' =>
    wq_asg_ (er_is er_int rfl) (fun common' =>
    wo_seq (e1 := (up1 (fun (common' : Int) => [.im (en cells'), .im (en weights'), .ow (told'.map en), .im (en cell'), .im (en common'), .no]))) (wo_for (as := fun (p : Int) => [(5, en p)]) (e := (up1 (fun (common' : Int) => [.im (en cells'), .im (en weights'), .ow (told'.map en), .im (en cell'), .im (en common'), .no]))) (f := fun (world' : Int) => up1 (m_law_lowest_l2 weights' world')) (s0 := common') (sr_l (er_var rfl)) tg_n rfl (fun world' common' =>
    wq_asg_ (er_is (er_call (ea_c (er_var rfl) (ea_c (er_ix (er_var rfl) (er_var rfl)) ea_n))) rfl) (fun common' =>
    wo_drop_ (i := 5) (Nat.le_of_ble_eq_true rfl) <| wo_nx rfl))) (fun common' =>
    wq_ifx (et_is (et_t (er_is (er_eq (er_var rfl) er_int) rfl)) rfl)
    (wo_is (wo_ret (er_is (er_dy (er_ix (er_var rfl) er_int)) rfl)) rfl)
    (wo_seq (e1 := (up1 (fun (told' : List Int) => [.im (en cells'), .im (en weights'), .ow (told'.map en), .im (en cell'), .im (en common'), .no]))) (wo_for (as := fun (p : Int) => [(5, en p)]) (e := (up1 (fun (told' : List Int) => [.im (en cells'), .im (en weights'), .ow (told'.map en), .im (en cell'), .im (en common'), .no]))) (f := fun (world' : Int) => up1 (m_law_lowest_l3 weights' common' world')) (s0 := told') (sr_l (er_var rfl)) tg_n rfl (fun world' told' =>
    wq_setO_ (i := 2) rfl (er_is (er_div (er_ix (er_var rfl) (er_var rfl)) (er_var rfl)) rfl) (er_is (er_var rfl) rfl) (fun told' =>
    wo_drop_ (i := 5) (Nat.le_of_ble_eq_true rfl) <| wo_nx rfl))) (fun told' =>
    wo_drop_ (i := 3) (Nat.le_of_ble_eq_true rfl) <| wo_drop_ (i := 4) (Nat.le_of_ble_eq_true rfl) <| wo_nx rfl)))))) (fun told' =>
    wo_drop_ (i := 0) (Nat.le_of_ble_eq_true rfl) <| wo_drop_ (i := 1) (Nat.le_of_ble_eq_true rfl) <| wo_fzO (i := 2) rfl <| wo_is (wo_ret (er_is (er_dy (er_var rfl)) rfl)) rfl))) (fun t => e_law_lowest t.1 t.2.1) (.inl rfl)⟩)

theorem ok_law_cells (F : Df K mg "_law_cells" s_law_cells ["labels"]) (gm : Gm K mg)  : FnG P w K mg base CX0 1 "_law_cells" ["labels"] (spD K (fnP (τ := (List Int) × Unit) (kIm (γ := (List (List Int)))) fun t => m_law_cells t.1)) := by
  refine F.ok (k := 0) sc_law_cells (fn_len fun _ => rfl) (fun f cdv A outer s H E hr => ⟨_,
    (pss_cons (sv 1 sc_law_cells.nd (pe_lst pa_nil)) (pss_cons (ps_for PassesOwn.never rfl (pi_range1 (by rfl) gm.range (pa_cons pe_int pa_nil)) (gn 2 sc_law_cells.nd) (pss_cons (ps_setLc (i := 3) (own := [("w", 4)]) rfl sc_law_cells.nd rfl rfl (sw_true rfl rfl rfl (by decide +kernel)) (pi_range1 (by rfl) gm.range (pa_cons (cb (kLen K) gm.len (pa_cons (pv 0) pa_nil)) pa_nil)) (blkOk_by (N := N_law_cells) (sc := defScope s_law_cells) (by decide +kernel)) (fun _ _ _ _ _ => (gn 4 sc_law_cells.nd)) (fun _ _ _ _ _ => (pts_one (pt_cmpR (kEq K hr.units) (ix K (pv 0) (pv 4)) (pv 2) (nomark _)))) (fun _ _ _ _ _ => (pv 4))) (pss_one (ps_if (pt_cmpR opGt (cb (kLen K) gm.len (pa_cons (pv 3) pa_nil)) pe_int (nomark _)) (pss_cons (ps_expr (ml_append K (pv 1) (pa_cons (pv 3) pa_nil))) pss_nil) pss_nil)))) (pss_one (ps_ret (pv 1))))),
    fn_w (fun t => [.im (en t.1), .no, .no, .no, .no]) (b := fun t => m_law_cells_b t.1) (r0 := .no) (eS := fun _ (_ : Unit) => [.no, .no, .no, .no, .no]) (eLL := fun _ (_ : Unit) => []) (fun _ => rfl) (fun ⟨labels', _⟩ =>
    wq_asgO_ (eo_is (eo_lst (el_n (α := List Int))) rfl) (Nat.le_of_ble_eq_true rfl) (fun cells' =>
    wo_seq (e1 := (up1 (fun (cells' : List (List Int)) => [.im (en labels'), .ow (cells'.map en), .no, .no, .no]))) (wo_for (as := fun (p : Int) => [(2, en p)]) (e := (up1 (fun (cells' : List (List Int)) => [.im (en labels'), .ow (cells'.map en), .no, .no, .no]))) (f := fun (label' : Int) => up1 (m_law_cells_l1 labels' label')) (s0 := cells') (sr_r1 er_int) tg_n rfl (fun label' cells' =>
    wq_asg_ (er_is (er_fzO (eo_lcIf (as := fun (p : Int) => [(4, en p)]) (vs := [4]) (c := fun (w' : Int) => (at_ labels' w').bind fun v154 => .ok (decide (v154 = label'))) (f := fun (w' : Int) => .ok w') (sw_d (sr_r1 (er_len (er_var rfl)))) tg_n (wp1 rfl) (fun _ _ h => h) (fun w' => (et_is (et_t (er_is (er_eq (er_ix (er_var rfl) (er_var rfl)) (er_var rfl)) rfl)) rfl)) (fun w' => (er_is (er_var rfl) rfl)))) rfl) (fun cell' =>
    wo_if (et_is (et_t (er_is (er_gt (er_len (er_var rfl)) er_int) rfl)) rfl)
    (wq_appO_ (i := 1) rfl (er_is (er_var rfl) rfl) (fun cells' =>
    wo_drop_ (i := 2) (Nat.le_of_ble_eq_true rfl) <| wo_drop_ (i := 3) (Nat.le_of_ble_eq_true rfl) <| wo_nx rfl))
    (wo_drop_ (i := 2) (Nat.le_of_ble_eq_true rfl) <| wo_drop_ (i := 3) (Nat.le_of_ble_eq_true rfl) <| wo_nx rfl)))) (fun cells' =>
    wo_drop_ (i := 0) (Nat.le_of_ble_eq_true rfl) <| wo_fzO (i := 1) rfl <| wo_is (wo_ret (er_is (er_var rfl) rfl)) rfl))) (fun t => e_law_cells t.1) (.inl rfl)⟩)

theorem ok_law_due (F : Df K mg "_law_due" s_law_due ["sights", "start"]) (gm : Gm K mg)  (G_law_fits : FnG P w K mg base CX0 1 "_law_fits" ["sights"] (spD K (fnP (τ := (List (List Int)) × Unit) (kIm (γ := Bool)) fun t => m_law_fits t.1))) (G_law_gcd : FnG P w K mg base CX0 1 "_law_gcd" ["first", "second"] (spD K (fnP (τ := Int × Int × Unit) (kIm (γ := Int)) fun t => m_law_gcd t.1 t.2.1))) (G_law_numbered : FnG P w K mg base CX0 1 "_law_numbered" ["labels"] (spD K (fnP (τ := (List Int) × Unit) (kCl (γ := (List Int))) fun t => m_law_numbered t.1))) (G_law_lowest : FnG P w K mg base CX0 2 "_law_lowest" ["cells", "weights"] (spD K (fnP (τ := (List (List Int)) × (List Int) × Unit) (kIm (γ := Dy)) fun t => m_law_lowest t.1 t.2.1))) (G_law_cells : FnG P w K mg base CX0 1 "_law_cells" ["labels"] (spD K (fnP (τ := (List Int) × Unit) (kIm (γ := (List (List Int)))) fun t => m_law_cells t.1))) : FnG P w K mg base CX0 3 "_law_due" ["sights", "start"] (spD K (fnP (τ := (List (List Int)) × (List (Int × Int)) × Unit) (kIm (γ := (List Dy))) fun t => m_law_due t.1 t.2.1)) := by
  refine F.ok (k := 2) sc_law_due (fn_len fun _ => rfl) (fun f cdv A outer s H E hr => ⟨_,
    (pss_cons (ps_if (pt_not (pt_val (pe_g G_law_fits hr.le pass0 (pa_cons (pv 0) pa_nil)))) (pss_one (ps_ret (pe_lst (pa_cons pe_str pa_nil)))) pss_nil) (pss_cons (ps_if (pt_cmpR (kNe K hr.units) (cb (kLen K) gm.len (pa_cons (pv 1) pa_nil)) (cb (kLen K) gm.len (pa_cons (ix K (pv 0) pe_int) pa_nil)) (nomark _)) (pss_one (ps_ret (pe_lst (pa_cons pe_str pa_nil)))) pss_nil) (pss_cons (sv 2 sc_law_due.nd pe_int) (pss_cons (ps_for PassesOwn.never rfl (pl K (pv 1)) (gn 3 sc_law_due.nd) (pss_cons (sv 2 sc_law_due.nd (pe_op opMul (pe_op opDiv (pv 2) (pe_g G_law_gcd hr.le pass0 (pa_cons (pv 2) (pa_cons (ix K (pv 3) pe_int) pa_nil)))) (ix K (pv 3) pe_int))) pss_nil)) (pss_cons (ps_setLc (i := 4) (own := [("number", 3)]) rfl sc_law_due.nd rfl rfl (sw_true rfl rfl rfl (by decide +kernel)) (pl K (pv 1)) (blkOk_by (N := N_law_due) (sc := defScope s_law_due) (by decide +kernel)) (fun _ _ _ _ _ => (gn 3 sc_law_due.nd)) (fun _ _ _ _ _ => pts_nil) (fun _ _ _ _ _ => (pe_op opMul (ix K (pv 3) pe_int) (pe_op opDiv (pv 2) (ix K (pv 3) pe_int))))) (pss_cons (ps_if (PW.pt (pw_or (pt_cmpR opLt (cb (kMin K rfl) gm.min (pa_cons (pv 4) pa_nil)) pe_int (nomark _)) (pw_or1 (pt_cmpR (kNe K hr.units) (cb (kSum K rfl) gm.sum (pa_cons (pv 4) pa_nil)) (pv 2) (nomark _))))) (pss_one (ps_ret (pe_lst (pa_cons pe_str pa_nil)))) pss_nil) (pss_cons (ps_setLc (i := 5) (own := [("row", 6)]) rfl sc_law_due.nd rfl rfl (sw_true rfl rfl rfl (by decide +kernel)) (pl K (pv 0)) (blkOk_by (N := N_law_due) (sc := defScope s_law_due) (by decide +kernel)) (fun _ _ _ _ _ => (gn 6 sc_law_due.nd)) (fun _ _ _ _ _ => pts_nil) (fun _ _ _ _ _ => (pe_g G_law_numbered hr.le pass0 (pa_cons (pv 6) pa_nil)))) (pss_cons (sv 7 sc_law_due.nd (pe_lst pa_nil)) (pss_cons (ps_for PassesOwn.never rfl (pi_range1 (by rfl) gm.range (pa_cons (cb (kLen K) gm.len (pa_cons (pv 5) pa_nil)) pa_nil)) (gn 8 sc_law_due.nd) (pss_cons (sv 9 sc_law_due.nd (pe_g G_law_lowest hr.le pass0 (pa_cons (pe_g G_law_cells hr.le pass0 (pa_cons (ix K (pv 5) (pv 8)) pa_nil)) (pa_cons (pv 4) pa_nil)))) (pss_cons (ps_if (pt_val (cb (kIsi K) gm.isinstance (pa_cons (pv 9) (pa_cons (pe_bltn (v := .ty "int") (by rfl) gm.int (by decide +kernel) rfl) pa_nil)))) (pss_one (ps_ret (pe_lst (pa_cons pe_str (pa_cons (pv 8) (pa_cons (pv 9) pa_nil)))))) pss_nil) (pss_cons (ps_expr (ml_append K (pv 7) (pa_cons (pv 9) pa_nil))) pss_nil)))) (pss_cons (ps_for PassesOwn.never rfl (pl K (pv 7)) (gn 9 sc_law_due.nd) (pss_one (ps_if (pt_cmpR opGt (cb (kMax K rfl) gm.max (pa_cons (pv 9) pa_nil)) (pe_op opPow pe_int pe_int) (nomark _)) (pss_one (ps_ret (pe_lst (pa_cons pe_str pa_nil)))) pss_nil))) (pss_one (ps_ret (pe_lst (pa_cons pe_str (pa_cons (pv 5) (pa_cons (pv 7) pa_nil)))))))))))))))),
    fn_w (fun t => [.im (en t.1), .im (en t.2.1), .no, .no, .no, .no, .no, .no, .no, .no]) (b := fun t => m_law_due_b t.1 t.2.1) (r0 := .no) (eS := fun _ (_ : Unit) => [.no, .no, .no, .no, .no, .no, .no, .no, .no, .no]) (eLL := fun _ (_ : Unit) => []) (fun _ => rfl) (fun ⟨sights', start', _⟩ =>
    wq_ifx (et_is (et_n (et_b (er_is (er_call (ea_c (er_var rfl) ea_n)) rfl))) rfl)
    (wo_is (wo_ret (er_is (er_fzO (eo_lst (el_c (er_dy er_str) el_n))) rfl)) rfl)
    (wq_ifx (et_is (et_t (er_is (er_ne (er_len (er_var rfl)) (er_len (er_ix (er_var rfl) er_int))) rfl)) rfl)
    (wo_is (wo_ret (er_is (er_fzO (eo_lst (el_c (er_dy er_str) el_n))) rfl)) rfl)
    (wq_asg_ (er_is er_int rfl) (fun common' =>
    wo_seq (e1 := (up1 (fun (common' : Int) => [.im (en sights'), .im (en start'), .im (en common'), .no, .no, .no, .no, .no, .no, .no]))) (wo_for (as := fun (p : (Int × Int)) => [(3, en p)]) (e := (up1 (fun (common' : Int) => [.im (en sights'), .im (en start'), .im (en common'), .no, .no, .no, .no, .no, .no, .no]))) (f := fun (number' : (Int × Int)) => up1 (m_law_due_l1 number')) (s0 := common') (sr_l (er_var rfl)) tg_n rfl (fun number' common' =>
    wq_asg_ (er_is (er_mul (er_div (er_var rfl) (er_call (ea_c (er_var rfl) (ea_c (er_p2 (er_var rfl)) ea_n)))) (er_p2 (er_var rfl))) rfl) (fun common' =>
    wo_drop_ (i := 3) (Nat.le_of_ble_eq_true rfl) <| wo_nx rfl))) (fun common' =>
    wq_asg_ (er_is (er_fzO (eo_lcR (as := fun (p : (Int × Int)) => [(3, en p)]) (vs := [3]) (f := fun (number' : (Int × Int)) => (fdiv common' number'.2).bind fun v170 => mul number'.1 v170) (sw_d (sr_l (er_var rfl))) tg_n (wp1 rfl) (fun _ _ h => h) (fun number' => (er_is (er_mul (er_p1 (er_var rfl)) (er_div (er_var rfl) (er_p2 (er_var rfl)))) rfl)))) rfl) (fun counts' =>
    wq_ifx (et_is (et_orR (et_is (et_t (er_is (er_lt (er_min (er_var rfl)) er_int) rfl)) rfl) (et_is (et_t (er_is (er_ne (er_sum (er_var rfl)) (er_var rfl)) rfl)) rfl)) rfl)
    (wo_is (wo_ret (er_is (er_fzO (eo_lst (el_c (er_dy er_str) el_n))) rfl)) rfl)
    (wq_asg_ (er_is (er_fzO (eo_lcR (as := fun (p : List Int) => [(6, en p)]) (vs := [6]) (f := fun (row' : List Int) => (m_law_numbered row').calm) (sw_d (sr_l (er_var rfl))) tg_n (wp1 rfl) (fun _ _ h => h) (fun row' => (er_is (er_fz (ec_callR (ea_c (er_var rfl) ea_n))) rfl)))) rfl) (fun labels' =>
    wq_asgO_ (eo_is (eo_lst (el_n (α := Dy))) rfl) (Nat.le_of_ble_eq_true rfl) (fun odds' =>
    wo_drop_ (i := 0) (Nat.le_of_ble_eq_true rfl) <| wo_drop_ (i := 1) (Nat.le_of_ble_eq_true rfl) <| wo_drop_ (i := 2) (Nat.le_of_ble_eq_true rfl) <| wo_seq (e1 := (up1 (fun (odds' : List Dy) => [.no, .no, .no, .no, .im (en counts'), .im (en labels'), .no, .ow (odds'.map en), .no, .no]))) (wo_for (as := fun (p : Int) => [(8, en p)]) (e := (up1 (fun (odds' : List Dy) => [.no, .no, .no, .no, .im (en counts'), .im (en labels'), .no, .ow (odds'.map en), .no, .no]))) (f := fun (person' : Int) => up1 (m_law_due_l2 counts' labels' person')) (s0 := odds') (sr_r1 (er_len (er_var rfl))) tg_n rfl (fun person' odds' =>
    wq_asg_ (er_is (er_call (ea_c (er_call (ea_c (er_ix (er_var rfl) (er_var rfl)) ea_n)) (ea_c (er_var rfl) ea_n))) rfl) (fun weights' =>
    wq_ifx (et_is (et_b (er_is (er_isi_int (er_var rfl)) rfl)) rfl)
    (wo_is (wo_ret (er_is (er_fzO (eo_lst (el_c (er_dy er_str) (el_c (er_dy (er_var rfl)) (el_c (er_var rfl) el_n))))) rfl)) rfl)
    (wq_appO_ (i := 7) rfl (er_is (er_var rfl) rfl) (fun odds' =>
    wo_drop_ (i := 8) (Nat.le_of_ble_eq_true rfl) <| wo_drop_ (i := 9) (Nat.le_of_ble_eq_true rfl) <| wo_nx rfl))))) (fun odds' =>
    wo_drop_ (i := 4) (Nat.le_of_ble_eq_true rfl) <| wo_fzO (i := 7) rfl <| wo_seq (e1 := (up0 [.no, .no, .no, .no, .no, .im (en labels'), .no, .im (en odds'), .no, .no])) (wo_for (as := fun (p : Dy) => [(9, en p)]) (e := (up0 [.no, .no, .no, .no, .no, .im (en labels'), .no, .im (en odds'), .no, .no])) (f := fun (weights' : Dy) => up0 (m_law_due_l3 weights')) (s0 := ()) (sr_l (er_var rfl)) tg_n rfl (fun weights' _ =>
    wo_if (et_is (et_t (er_is (er_gt (er_max (er_cast (γ := List Int) (er_var rfl))) (er_powC (a := 10) (b := 40) (z := 10000000000000000000000000000000000000000) ⟨by decide, by decide, by decide⟩ (by decide))) rfl)) rfl)
    (wo_is (wo_ret (er_is (er_fzO (eo_lst (el_c (er_dy er_str) el_n))) rfl)) rfl)
    (wo_drop_ (i := 9) (Nat.le_of_ble_eq_true rfl) <| wo_nx rfl))) (fun _ =>
    wo_is (wo_ret (er_is (er_fzO (eo_lst (el_c (er_dy er_str) (el_c (er_dy (er_var rfl)) (el_c (er_dy (er_var rfl)) el_n))))) rfl)) rfl))))))))))) (fun t => e_law_due t.1 t.2.1) (.inl rfl)⟩)

theorem ok_check_sights (F : Df K mg "check_sights" s_check_sights ["sights"]) (gm : Gm K mg)  : FnG P w K mg base (L2N.CX P w) 1 "check_sights" ["sights"] (spD K (fnP (τ := (List (List Int)) × Unit) (kIm (γ := Unit)) fun t => m_check_sights t.1)) := by
  refine F.okN (k := 0) sc_check_sights (fn_len fun _ => rfl) (fun f cdv A outer s H E hr => ⟨_,
    (pss_cons (ps_if (PW.pt (pw_or (pt_cmpR opLt (cb (kLen K) gm.len (pa_cons (pv 0) pa_nil)) pe_int (nomark _)) (pw_or1 (pt_cmpR opGt (cb (kLen K) gm.len (pa_cons (pv 0) pa_nil)) (gl gm.MOST_PEOPLE) (nomark _))))) (pss_one (ps_r0 gm.BadBook_p rfl (L2N.takes_of rfl rfl rfl rfl))) pss_nil) (pss_cons (sv 1 sc_check_sights.nd (cb (kLen K) gm.len (pa_cons (ix K (pv 0) pe_int) pa_nil))) (pss_cons (ps_if (PW.pt (pw_or (pt_cmpR opLt (pv 1) pe_int (nomark _)) (pw_or1 (pt_cmpR opGt (pv 1) (gl gm.MOST_WORLDS) (nomark _))))) (pss_one (ps_r0 gm.BadBook_p rfl (L2N.takes_of rfl rfl rfl rfl))) pss_nil) (pss_cons (ps_for (passes_of rfl) rfl (pl K (pv 0)) (gn 2 sc_check_sights.nd) (pss_cons (ps_if (pt_cmpR (kNe K hr.units) (cb (kLen K) gm.len (pa_cons (pv 2) pa_nil)) (pv 1) (nomark _)) (pss_one (ps_r0 gm.BadBook_p rfl (L2N.takes_of rfl rfl rfl rfl))) pss_nil) (pss_cons (ps_for (passes_of rfl) rfl (pl K (pv 2)) (gn 3 sc_check_sights.nd) (pss_one (ps_if (PW.pt (pw_or (pt_cmpR opLt (pv 3) pe_int (nomark _)) (pw_or1 (pt_cmpR opGe (pv 3) (gl gm.MOST_WORLDS) (nomark _))))) (pss_one (ps_r0 gm.BadBook_p rfl (L2N.takes_of rfl rfl rfl rfl))) pss_nil))) pss_nil))) pss_nil)))),
    fn_w (fun t => [.im (en t.1), .no, .no, .no]) (b := fun t => m_check_sights_b t.1) (r0 := .ok ()) (eS := fun _ (_ : Unit) => [.no, .no, .no, .no]) (eLL := fun _ (_ : Unit) => []) (fun _ => rfl) (fun ⟨sights', _⟩ =>
    wq_ifx (et_is (et_orP (et_is (et_t (er_is (er_lt (er_len (er_var rfl)) er_int) rfl)) rfl) (et_is (et_t (er_is (er_gt (er_len (er_var rfl)) er_int) rfl)) rfl)) rfl)
    (wo_raise0 gm.BadBook_f)
    (wq_asg_ (er_is (er_len (er_ix (er_var rfl) er_int)) rfl) (fun worlds' =>
    wq_ifx (et_is (et_orP (et_is (et_t (er_is (er_lt (er_var rfl) er_int) rfl)) rfl) (et_is (et_t (er_is (er_gt (er_var rfl) er_int) rfl)) rfl)) rfl)
    (wo_raise0 gm.BadBook_f)
    (wo_seq (e1 := (up0 [.im (en sights'), .im (en worlds'), .no, .no])) (wo_for (as := fun (p : List Int) => [(2, en p)]) (e := (up0 [.im (en sights'), .im (en worlds'), .no, .no])) (f := fun (row' : List Int) => up0 (m_check_sights_l1 worlds' row')) (s0 := ()) (sr_l (er_var rfl)) tg_n rfl (fun row' _ =>
    wq_ifx (et_is (et_t (er_is (er_ne (er_len (er_var rfl)) (er_var rfl)) rfl)) rfl)
    (wo_raise0 gm.BadBook_f)
    (wo_seq (e1 := (up0 [.im (en sights'), .im (en worlds'), .im (en row'), .no])) (wo_for (as := fun (p : Int) => [(3, en p)]) (e := (up0 [.im (en sights'), .im (en worlds'), .im (en row'), .no])) (f := fun (label' : Int) => up0 (m_check_sights_l2 label')) (s0 := ()) (sr_l (er_var rfl)) tg_n rfl (fun label' _ =>
    wo_if (et_is (et_orP (et_is (et_t (er_is (er_lt (er_var rfl) er_int) rfl)) rfl) (et_is (et_t (er_is (er_ge (er_var rfl) er_int) rfl)) rfl)) rfl)
    (wo_raise0 gm.BadBook_f)
    (wo_drop_ (i := 3) (Nat.le_of_ble_eq_true rfl) <| wo_nx rfl))) (fun _ =>
    wo_drop_ (i := 2) (Nat.le_of_ble_eq_true rfl) <| wo_nx rfl)))) (fun _ =>
    wo_drop_ (i := 0) (Nat.le_of_ble_eq_true rfl) <| wo_drop_ (i := 1) (Nat.le_of_ble_eq_true rfl) <| wo_nx rfl))))) (fun t => e_check_sights t.1) (.inr ⟨_, rfl, rfl⟩)⟩)

theorem ok_check_odds (F : Df K mg "check_odds" s_check_odds ["sights", "odds"]) (gm : Gm K mg)  : FnG P w K mg base (L2N.CX P w) 1 "check_odds" ["sights", "odds"] (spD K (fnP (τ := (List (List Int)) × (List (List Int)) × Unit) (kIm (γ := Unit)) fun t => m_check_odds t.1 t.2.1)) := by
  refine F.okN (k := 0) sc_check_odds (fn_len fun _ => rfl) (fun f cdv A outer s H E hr => ⟨_,
    (pss_cons (ps_if (pt_cmpR (kNe K hr.units) (cb (kLen K) gm.len (pa_cons (pv 1) pa_nil)) (cb (kLen K) gm.len (pa_cons (pv 0) pa_nil)) (nomark _)) (pss_one (ps_r0 gm.BadBook_p rfl (L2N.takes_of rfl rfl rfl rfl))) pss_nil) (pss_cons (ps_for (passes_of rfl) rfl (pl K (pv 1)) (gn 2 sc_check_odds.nd) (pss_cons (ps_if (pt_cmpR (kNe K hr.units) (cb (kLen K) gm.len (pa_cons (pv 2) pa_nil)) (cb (kLen K) gm.len (pa_cons (ix K (pv 0) pe_int) pa_nil)) (nomark _)) (pss_one (ps_r0 gm.BadBook_p rfl (L2N.takes_of rfl rfl rfl rfl))) pss_nil) (pss_cons (ps_for (passes_of rfl) rfl (pl K (pv 2)) (gn 3 sc_check_odds.nd) (pss_one (ps_if (PW.pt (pw_or (pt_cmpR opLt (pv 3) pe_int (nomark _)) (pw_or1 (pt_cmpR opGt (pv 3) (gl gm.MOST_WEIGHT) (nomark _))))) (pss_one (ps_r0 gm.BadBook_p rfl (L2N.takes_of rfl rfl rfl rfl))) pss_nil))) pss_nil))) pss_nil)),
    fn_w (fun t => [.im (en t.1), .im (en t.2.1), .no, .no]) (b := fun t => m_check_odds_b t.1 t.2.1) (r0 := .ok ()) (eS := fun _ (_ : Unit) => [.no, .no, .no, .no]) (eLL := fun _ (_ : Unit) => []) (fun _ => rfl) (fun ⟨sights', odds', _⟩ =>
    wq_ifx (et_is (et_t (er_is (er_ne (er_len (er_var rfl)) (er_len (er_var rfl))) rfl)) rfl)
    (wo_raise0 gm.BadBook_f)
    (wo_seq (e1 := (up0 [.im (en sights'), .im (en odds'), .no, .no])) (wo_for (as := fun (p : List Int) => [(2, en p)]) (e := (up0 [.im (en sights'), .im (en odds'), .no, .no])) (f := fun (row' : List Int) => up0 (m_check_odds_l1 sights' row')) (s0 := ()) (sr_l (er_var rfl)) tg_n rfl (fun row' _ =>
    wq_ifx (et_is (et_t (er_is (er_ne (er_len (er_var rfl)) (er_len (er_ix (er_var rfl) er_int))) rfl)) rfl)
    (wo_raise0 gm.BadBook_f)
    (wo_seq (e1 := (up0 [.im (en sights'), .im (en odds'), .im (en row'), .no])) (wo_for (as := fun (p : Int) => [(3, en p)]) (e := (up0 [.im (en sights'), .im (en odds'), .im (en row'), .no])) (f := fun (weight' : Int) => up0 (m_check_odds_l2 weight')) (s0 := ()) (sr_l (er_var rfl)) tg_n rfl (fun weight' _ =>
    wo_if (et_is (et_orP (et_is (et_t (er_is (er_lt (er_var rfl) er_int) rfl)) rfl) (et_is (et_t (er_is (er_gt (er_var rfl) er_int) rfl)) rfl)) rfl)
    (wo_raise0 gm.BadBook_f)
    (wo_drop_ (i := 3) (Nat.le_of_ble_eq_true rfl) <| wo_nx rfl))) (fun _ =>
    wo_drop_ (i := 2) (Nat.le_of_ble_eq_true rfl) <| wo_nx rfl)))) (fun _ =>
    wo_drop_ (i := 0) (Nat.le_of_ble_eq_true rfl) <| wo_drop_ (i := 1) (Nat.le_of_ble_eq_true rfl) <| wo_nx rfl))) (fun t => e_check_odds t.1 t.2.1) (.inr ⟨_, rfl, rfl⟩)⟩)

theorem ok_numbered (F : Df K mg "numbered" s_numbered ["row"]) (gm : Gm K mg) : FnG P w K mg base CX0 1 "numbered" ["row"] (spD K (fnP (τ := (List Int) × Unit) (kCl (γ := (List Int))) fun t => m_numbered t.1)) := by
  refine F.ok (k := 0) sc_numbered (fn_len fun _ => rfl) (fun f cdv A outer s H E hr => ?_)
  refine ⟨_, (pss_cons (sv 1 sc_numbered.nd pe_dnewK) (pss_cons (ps_for PassesOwn.never rfl (pl K (pv 0)) (gn 2 sc_numbered.nd) (pss_one (ps_if (pt_cmp (dnotin hr.units (pv 2) (pv 1)) (by rfl)) (pss_one (dput hr.units (pv 1) (pv 2) (cb kLenD gm.len (pa_cons (pv 1) pa_nil)))) pss_nil))) (pss_one (ps_ret (pe_lc (own := [("label", 2)]) rfl sc_numbered.nd (pl K (pv 0)) (blkOk_by (N := N_numbered) (sc := defScope s_numbered) (by decide +kernel)) (fun _ _ _ _ _ => (gn 2 sc_numbered.nd)) (fun _ _ _ _ _ => pts_nil) (fun _ _ _ _ _ => (dget hr.units (pv 1) (pv 2)))))))), fun ds R Z p => ?_⟩
  obtain ⟨row, rfl, hz, p⟩ := read_numbered p
  refine ws_to (ρ' := [.im (intsD row), .no, .no]) rfl ?_
  try dsimp only [cxOf, L2.Cx.nox, L2.Cx.wish, L2.Cx.blk]
  refine wq_asgC ec_dnew (by simp) ?_
  dsimp only [List.set]
  refine wq_for (src_list (l := row.map .int) (ev_var rfl)) (fun i ρ' => ∃ s2, ρ' = [.im (intsD row), .cl (.dic (ik (firsts (row.take i))) (rng 0 (firsts (row.take i)).length)), s2] ∧ isOw (some s2) = false) ⟨_, rfl, rfl⟩ ?_ ?_
  · rintro i d ρ' hd ⟨s2, rfl, _⟩
    obtain ⟨x, hx, rfl⟩ := map_get hd
    refine ⟨_, gd_name, ?_⟩
    dsimp only [setD, List.set]
    have hfl := firsts_len (row.take i)
    rw [List.length_take] at hfl
    refine ws_if (et_B (et_notind (ks := firsts (row.take i)) rfl (by rw [rng_len]) (ev_var rfl))) (fun hb => ?_) (fun hb => ?_)
    · have hn : x ∉ firsts (row.take i) := by simpa using hb
      refine ws_dput (ks := firsts (row.take i)) rfl (by rw [rng_len]) (by omega) hn (ev_lenD rfl (by rw [ik, List.length_map, rng_len])) rfl (ev_var rfl) ?_
      dsimp only [List.set]
      refine ⟨.im (.int x), ?_, rfl⟩
      rw [firsts_take hx, if_neg hn, List.length_append, List.length_singleton, rng_len]
      have e : rng 0 ((firsts (row.take i)).length + 1) = rng 0 (firsts (row.take i)).length ++ [.int ((firsts (row.take i)).length : Int)] := by
        unfold rng
        rw [List.range_succ, List.map_append]
        simp
      rw [e]
    · have hn : x ∈ firsts (row.take i) := by simpa using hb
      refine ws_next ⟨.im (.int x), ?_, rfl⟩
      rw [firsts_take hx, if_pos hn]
  · rintro ρ' ⟨s2, rfl, h2⟩
    rw [List.length_map, List.take_length]
    refine ws_fzC (i := 1) rfl ?_
    dsimp only [List.set]
    refine ws_retC (d := natsD (row.map fun x => (firsts row).findIdx (· == x))) ((ec_ow (evo_map (xs := row) (enc := .int) (fun x => D.int (((firsts row).findIdx (· == x) : Nat) : Int)) (src_list (ev_var rfl)) ?_ (fun x hx => ⟨_, gd_name, by simp, ?_⟩) (by omega)) ?_).is ?_) p
    · intro i hi
      have hi : i = 2 := by simpa using hi
      rw [hi]
      exact h2
    · dsimp only [setD, wipeD, List.set, List.map]
      have hm := mem_firsts hx
      have hlt : (firsts row).findIdx (· == x) < (firsts row).length := List.findIdx_lt_length_of_exists ⟨x, hm, by simp⟩
      refine ev_dget (ks := firsts row) (jj := (firsts row).findIdx (· == x)) (ev_var rfl) (ev_var rfl) (by rw [rng_len]) ?_ ?_
      · rw [List.findIdx?_eq_some_iff_findIdx_eq]
        exact ⟨hlt, rfl⟩
      · unfold rng
        rw [List.getElem?_map, List.getElem?_range hlt]
        show some (D.int (0 + _)) = _
        rw [Int.zero_add]
    · intro d hd
      obtain ⟨x, _, rfl⟩ := List.mem_map.mp hd
      rfl
    · show D.lst _ = D.lst _
      rw [List.map_map]
      rfl

theorem ok_gathered (F : Df K mg "gathered" s_gathered ["labels"]) (gm : Gm K mg)  : FnG P w K mg base CX0 1 "gathered" ["labels"] (spD K (fnP (τ := (List Int) × Unit) (kCl (γ := (List (List Int)))) fun t => m_gathered t.1)) := by
  refine F.ok (k := 0) sc_gathered (fn_len fun _ => rfl) (fun f cdv A outer s H E hr => ⟨_,
    (pss_cons (ps_setLc (i := 1) (own := [("_", 2)]) rfl sc_gathered.nd rfl rfl (sw_true rfl rfl rfl (by decide +kernel)) (pi_range1 (by rfl) gm.range (pa_cons (pe_op (kAdd K) (cb (kMax K rfl) gm.max (pa_cons (pv 0) pa_nil)) pe_int) pa_nil)) (blkOk_by (N := N_gathered) (sc := defScope s_gathered) (by decide +kernel)) (fun _ _ _ _ _ => (gn 2 sc_gathered.nd)) (fun _ _ _ _ _ => pts_nil) (fun _ _ _ _ _ => (pe_lst pa_nil))) (pss_cons (ps_for PassesOwn.never rfl (pi_range1 (by rfl) gm.range (pa_cons (cb (kLen K) gm.len (pa_cons (pv 0) pa_nil)) pa_nil)) (gn 3 sc_gathered.nd) (pss_cons (ps_expr (ml_append K (ix K (pv 1) (ix K (pv 0) (pv 3))) (pa_cons (pv 3) pa_nil))) pss_nil)) (pss_one (ps_ret (pv 1))))),
    fn_w (fun t => [.im (en t.1), .no, .no, .no]) (b := fun t => m_gathered_b t.1) (r0 := .no) (eS := fun _ (_ : Unit) => [.no, .no, .no, .no]) (eLL := fun _ (_ : Unit) => []) (fun _ => rfl) (fun ⟨labels', _⟩ =>
    wq_asgC_ (ec_isR (ec_lcP (as := fun (p : Int) => [(2, en p)]) (vs := [2]) (f := fun (_' : Int) => []) (sw_d (sr_r1 (er_add (er_max (er_var rfl)) er_int))) tg_n (wp1 rfl) (fun _ _ h => h) (fun _' => (ec_isR (ec_lstR ecl_n) rfl))) rfl) (Nat.le_of_ble_eq_true rfl) (fun cells' =>
    wo_seq (e1 := (up1 (fun (cells' : List (List Int)) => [.im (en labels'), .cl (eo cells'), .no, .no]))) (wo_for (as := fun (p : Int) => [(3, en p)]) (e := (up1 (fun (cells' : List (List Int)) => [.im (en labels'), .cl (eo cells'), .no, .no]))) (f := fun (world' : Int) => up1 (m_gathered_l1 labels' world')) (s0 := cells') (sr_r1 (er_len (er_var rfl))) tg_n rfl (fun world' cells' =>
    wq_appC1 (i := 1) rfl (er_is (er_ix (er_var rfl) (er_var rfl)) rfl) (ec_isR (ec_scR (er_var rfl)) rfl) (fun cells' =>
    wo_drop_ (i := 3) (Nat.le_of_ble_eq_true rfl) <| wo_nx rfl))) (fun cells' =>
    wo_drop_ (i := 0) (Nat.le_of_ble_eq_true rfl) <| wo_retVC (i := 1) rfl))) (fun t => e_gathered t.1) (.inl rfl)⟩)

theorem ok_lowest (F : Df K mg "lowest" s_lowest ["person", "cells", "weights"]) (gm : Gm K mg) (G_BadOdds : FnX P w K mg base 1 "BadOdds" (Cm.at_ "BadOdds") ["person", "world"]) : FnG P w K mg base (L2N.CX P w) 3 "lowest" ["person", "cells", "weights"] (spD K (fnP (τ := Int × (List (List Int)) × (List Int) × Unit) (kCl (γ := (List Int))) fun t => m_lowest t.1 t.2.1 t.2.2.1)) := by
  refine F.okN (k := 2) sc_lowest (fn_len fun _ => rfl) (fun f cdv A outer s H E hr => ⟨_,
    (pss_cons (sv 3 sc_lowest.nd (ct (kList K) gm.list (pa_cons (pv 2) pa_nil))) (pss_cons (ps_for (passes_of rfl) rfl (pl K (pv 1)) (gn 4 sc_lowest.nd) (pss_cons (sv 5 sc_lowest.nd pe_int) (pss_cons (ps_for (passes_of rfl) rfl (pl K (pv 4)) (gn 6 sc_lowest.nd) (pss_cons (sv 5 sc_lowest.nd (pe_callBfun cr_gcd (by rfl) gm.gcd (pa_cons (pv 5) (pa_cons (ix K (pv 2) (pv 6)) pa_nil)))) pss_nil)) (pss_cons (ps_if (pt_cmpR (kEq K hr.units) (pv 5) pe_int (nomark _)) (pss_one (ps_rx G_BadOdds rfl hr.le (L2N.takes_of rfl rfl rfl rfl) pass0 (pa_cons (pv 0) (pa_cons (ix K (pv 4) pe_int) pa_nil)))) pss_nil) (pss_cons (ps_for (passes_of rfl) rfl (pl K (pv 4)) (gn 6 sc_lowest.nd) (pss_cons (ps_asg (pe_op opDiv (ix K (pv 2) (pv 6)) (pv 5)) (pg_sub (pv 3) (pv 6) set_list)) pss_nil)) pss_nil))))) (pss_one (ps_ret (pv 3))))),
    fn_w (fun t => [.im (en t.1), .im (en t.2.1), .im (en t.2.2.1), .no, .no, .no, .no]) (b := fun t => m_lowest_b t.1 t.2.1 t.2.2.1) (r0 := .no) (eS := fun _ (_ : Unit) => [.no, .no, .no, .no, .no, .no, .no]) (eLL := fun _ (_ : Unit) => []) (fun _ => rfl) (fun ⟨person', cells', weights', _⟩ =>
    wq_asgO_ (eo_is (eo_list (er_var rfl)) rfl) (Nat.le_of_ble_eq_true rfl) (fun told' =>
    wo_seq (e1 := (up1 (fun (told' : List Int) => [.im (en person'), .im (en cells'), .im (en weights'), .ow (told'.map en), .no, .no, .no]))) (wo_for (as := fun (p : List Int) => [(4, en p)]) (e := (up1 (fun (told' : List Int) => [.im (en person'), .im (en cells'), .im (en weights'), .ow (told'.map en), .no, .no, .no]))) (f := fun (cell' : List Int) => up1 (m_lowest_l1 person' weights' cell')) (s0 := told') (sr_l (er_var rfl)) tg_n rfl (fun cell' told' =>
    wq_asg_ (er_is er_int rfl) (fun common' =>
    wo_seq (e1 := (up1 (fun (common' : Int) => [.im (en person'), .im (en cells'), .im (en weights'), .ow (told'.map en), .im (en cell'), .im (en common'), .no]))) (wo_for (as := fun (p : Int) => [(6, en p)]) (e := (up1 (fun (common' : Int) => [.im (en person'), .im (en cells'), .im (en weights'), .ow (told'.map en), .im (en cell'), .im (en common'), .no]))) (f := fun (world' : Int) => up1 (m_lowest_l2 weights' world')) (s0 := common') (sr_l (er_var rfl)) tg_n rfl (fun world' common' =>
    wq_asg_ (er_is (er_gcd (er_var rfl) (er_ix (er_var rfl) (er_var rfl))) rfl) (fun common' =>
    wo_drop_ (i := 6) (Nat.le_of_ble_eq_true rfl) <| wo_nx rfl))) (fun common' =>
    wq_ifx (et_is (et_t (er_is (er_eq (er_var rfl) er_int) rfl)) rfl)
    (wo_is (wo_raiseN gm.BadOdds_f (el_c (er_dy (er_var rfl)) (el_c (er_dy (er_ix (er_var rfl) er_int)) el_n))) rfl)
    (wo_seq (e1 := (up1 (fun (told' : List Int) => [.im (en person'), .im (en cells'), .im (en weights'), .ow (told'.map en), .im (en cell'), .im (en common'), .no]))) (wo_for (as := fun (p : Int) => [(6, en p)]) (e := (up1 (fun (told' : List Int) => [.im (en person'), .im (en cells'), .im (en weights'), .ow (told'.map en), .im (en cell'), .im (en common'), .no]))) (f := fun (world' : Int) => up1 (m_lowest_l3 weights' common' world')) (s0 := told') (sr_l (er_var rfl)) tg_n rfl (fun world' told' =>
    wq_setO_ (i := 3) rfl (er_is (er_div (er_ix (er_var rfl) (er_var rfl)) (er_var rfl)) rfl) (er_is (er_var rfl) rfl) (fun told' =>
    wo_drop_ (i := 6) (Nat.le_of_ble_eq_true rfl) <| wo_nx rfl))) (fun told' =>
    wo_drop_ (i := 4) (Nat.le_of_ble_eq_true rfl) <| wo_drop_ (i := 5) (Nat.le_of_ble_eq_true rfl) <| wo_nx rfl)))))) (fun told' =>
    wo_drop_ (i := 0) (Nat.le_of_ble_eq_true rfl) <| wo_drop_ (i := 1) (Nat.le_of_ble_eq_true rfl) <| wo_drop_ (i := 2) (Nat.le_of_ble_eq_true rfl) <| wo_owcl (i := 3) rfl <| wo_retVC (i := 3) rfl))) (fun t => e_lowest t.1 t.2.1 t.2.2.1) (.inl rfl)⟩)

theorem ok_Book_init (F : Di K mg (Cm.at_ "Book") "Book" "Book.__init__" s_Book_init ["self", "sights", "odds"]) (gm : Gm K mg)  (G_check_sights : FnG P w K mg base (L2N.CX P w) 1 "check_sights" ["sights"] (spD K (fnP (τ := (List (List Int)) × Unit) (kIm (γ := Unit)) fun t => m_check_sights t.1))) (G_check_odds : FnG P w K mg base (L2N.CX P w) 1 "check_odds" ["sights", "odds"] (spD K (fnP (τ := (List (List Int)) × (List (List Int)) × Unit) (kIm (γ := Unit)) fun t => m_check_odds t.1 t.2.1))) (G_numbered : FnG P w K mg base CX0 1 "numbered" ["row"] (spD K (fnP (τ := (List Int) × Unit) (kCl (γ := (List Int))) fun t => m_numbered t.1))) (G_gathered : FnG P w K mg base CX0 1 "gathered" ["labels"] (spD K (fnP (τ := (List Int) × Unit) (kCl (γ := (List (List Int)))) fun t => m_gathered t.1))) (G_lowest : FnG P w K mg base (L2N.CX P w) 3 "lowest" ["person", "cells", "weights"] (spD K (fnP (τ := Int × (List (List Int)) × (List Int) × Unit) (kCl (γ := (List Int))) fun t => m_lowest t.1 t.2.1 t.2.2.1))) : FnI P w K mg base (L2N.CX P w) 4 (Cm.at_ "Book") "Book" ["self", "sights", "odds"] (spMk K (Cm.at_ "Book") (fnMk (τ := (List (List Int)) × (List (List Int)) × Unit) (γ := Book) fun t => m_Book_init t.1 t.2.1)) := by
  refine F.okN (k := 3) sc_Book_init (fnMk_len fun _ => rfl) (fun f cdv A outer s H E hr => ⟨_,
    (pss_cons (ps_expr (pe_gX G_check_sights hr.le (L2N.takes_of rfl rfl rfl rfl) (pa_cons (pv 1) pa_nil))) (pss_cons (ps_expr (pe_gX G_check_odds hr.le (L2N.takes_of rfl rfl rfl rfl) (pa_cons (pv 1) (pa_cons (pv 2) pa_nil)))) (pss_cons (fs K (pv 0) (cb (kLen K) gm.len (pa_cons (ix K (pv 1) pe_int) pa_nil))) (pss_cons (fs K (pv 0) (cb (kLen K) gm.len (pa_cons (pv 1) pa_nil))) (pss_cons (fs K (pv 0) (pe_lc (own := [("row", 3)]) rfl sc_Book_init.nd (pl K (pv 1)) (blkOk_by (N := N_Book_init) (sc := defScope s_Book_init) (by decide +kernel)) (fun _ _ _ _ _ => (gn 3 sc_Book_init.nd)) (fun _ _ _ _ _ => pts_nil) (fun _ _ _ _ _ => (pe_g G_numbered hr.le pass0 (pa_cons (pv 3) pa_nil))))) (pss_cons (fs K (pv 0) (pe_lc (own := [("labels", 4)]) rfl sc_Book_init.nd (pl K (fl K (pv 0))) (blkOk_by (N := N_Book_init) (sc := defScope s_Book_init) (by decide +kernel)) (fun _ _ _ _ _ => (gn 4 sc_Book_init.nd)) (fun _ _ _ _ _ => pts_nil) (fun _ _ _ _ _ => (pe_g G_gathered hr.le pass0 (pa_cons (pv 4) pa_nil))))) (pss_cons (fs K (pv 0) (pe_lst pa_nil)) (pss_cons (fs K (pv 0) (pe_lst pa_nil)) (pss_cons (ps_for (passes_of rfl) rfl (pi_range1 (by rfl) gm.range (pa_cons (fl K (pv 0)) pa_nil)) (gn 5 sc_Book_init.nd) (pss_cons (sv 6 sc_Book_init.nd (pe_gX G_lowest hr.le (L2N.takes_of rfl rfl rfl rfl) (pa_cons (pv 5) (pa_cons (ix K (fl K (pv 0)) (pv 5)) (pa_cons (ix K (pv 2) (pv 5)) pa_nil))))) (pss_cons (ps_expr (ml_append K (fl K (pv 0)) (pa_cons (pv 6) pa_nil))) (pss_cons (ps_expr (ml_append K (fl K (pv 0)) (pa_cons (pe_lc (own := [("cell", 7)]) rfl sc_Book_init.nd (pl K (ix K (fl K (pv 0)) (pv 5))) (blkOk_by (N := N_Book_init) (sc := defScope s_Book_init) (by decide +kernel)) (fun _ _ _ _ _ => (gn 7 sc_Book_init.nd)) (fun _ _ _ _ _ => pts_nil) (fun _ _ _ _ _ => (cb (kSum K rfl) gm.sum (pa_cons (pe_lc (own := [("world", 8)]) rfl sc_Book_init.nd (pl K (pv 7)) (blkOk_by (N := N_Book_init) (by kernel_rfl)) (fun _ _ _ _ _ => (gn 8 sc_Book_init.nd)) (fun _ _ _ _ _ => pts_nil) (fun _ _ _ _ _ => (ix K (pv 6) (pv 8)))) pa_nil)))) pa_nil))) pss_nil)))) pss_nil))))))))),
    fn_wI (γ := Book) (N := N_Book_init) (fun a_ t => [slS a_ "Book" [] [], .im (en t.1), .im (en t.2.1), .no, .no, .no, .no, .no, .no]) (b := fun t => m_Book_init_b t.1 t.2.1) (eS := fun a_ _ (s : Book) => [slS a_ "Book" ["worlds", "people", "_labels", "_cells", "_weights", "_totals"] (Ins.l s), .no, .no, .no, .no, .no, .no, .no, .no]) (eLL := fun _ _ (_ : Unit) => []) (k := kIm (γ := Unit)) gm.Book_fs (fun _ _ => rfl) (fun _ _ _ => rfl) (fun a_ ⟨sights', odds', _⟩ =>
    wq_drop_ (er_is (er_callS (ea_c (er_var rfl) ea_n)) rfl) (fun _ =>
    wq_drop_ (er_is (er_callS (ea_c (er_var rfl) (ea_c (er_var rfl) ea_n))) rfl) (fun _ =>
    wq_fldS_ (i := 0) rfl (ec_isR (ec_scR (er_len (er_ix (er_var rfl) er_int))) rfl) gm.Book_c gm.Book_a_worlds (by decide +kernel) rfl (by decide) (fun s_worlds =>
    wq_fldS_ (i := 0) rfl (ec_isR (ec_scR (er_len (er_var rfl))) rfl) gm.Book_c gm.Book_a_people (by decide +kernel) rfl (by decide) (fun s_people =>
    wq_fldS_ (i := 0) rfl (ec_isR (ec_lcR (as := fun (p : List Int) => [(3, en p)]) (vs := [3]) (f := fun (row' : List Int) => (m_numbered row').calm) (sw_d (sr_l (er_var rfl))) tg_n (wp1 rfl) (fun _ _ h => h) (fun row' => (ec_isR (ec_callR (ea_c (er_var rfl) ea_n)) rfl))) rfl) gm.Book_c gm.Book_a__labels (by decide +kernel) rfl (by decide) (fun s__labels =>
    wq_fldS_ (i := 0) rfl (ec_isR (ec_lentR (.slf (.im (.im (.no (.no (.no (.no (.no (.no .nil))))))))) (ec_lcR (as := fun (p : List Int) => [(4, en p)]) (vs := [4]) (f := fun (labels' : List Int) => (m_gathered labels').calm) (sw_d (sr_l (er_fldP (i := 0) (j := 2) rfl gm.Book_c gm.Book_a__labels (by decide +kernel) rfl))) tg_n (wp1 rfl) (fun _ _ h => h) (fun labels' => (ec_isR (ec_callR (ea_c (er_var rfl) ea_n)) rfl)))) rfl) gm.Book_c gm.Book_a__cells (by decide +kernel) rfl (by decide) (fun s__cells =>
    wq_fldS_ (i := 0) rfl (ec_isR (ec_lstR ecl_n) rfl) gm.Book_c gm.Book_a__weights (by decide +kernel) rfl (by decide) (fun s__weights =>
    wq_fldS_ (i := 0) rfl (ec_isR (ec_lstR ecl_n) rfl) gm.Book_c gm.Book_a__totals (by decide +kernel) rfl (by decide) (fun s__totals =>
    wo_drop_ (i := 1) (Nat.le_of_ble_eq_true rfl) <| wo_seq (e1 := (up2 (fun (s__weights : List (List Int)) (s__totals : List (List Int)) => [slS a_ "Book" ["worlds", "people", "_labels", "_cells", "_weights", "_totals"] [dy s_worlds, dy s_people, dy s__labels, dy s__cells, dy s__weights, dy s__totals], .no, .im (en odds'), .no, .no, .no, .no, .no, .no]))) (wo_for (as := fun (p : Int) => [(5, en p)]) (e := (up2 (fun (s__weights : List (List Int)) (s__totals : List (List Int)) => [slS a_ "Book" ["worlds", "people", "_labels", "_cells", "_weights", "_totals"] [dy s_worlds, dy s_people, dy s__labels, dy s__cells, dy s__weights, dy s__totals], .no, .im (en odds'), .no, .no, .no, .no, .no, .no]))) (f := fun (person' : Int) => up2 (m_Book_init_l1 odds' s__cells person')) (s0 := (s__weights, s__totals)) (sr_r1 (er_lentS (.slf (.no (.im (.no (.no (.no (.no (.no (.no .nil))))))))) (er_fldP (i := 0) (j := 1) rfl gm.Book_c gm.Book_a_people (by decide +kernel) rfl))) tg_n rfl (fun person' ⟨s__weights, s__totals⟩ =>
    wq_asgO_ (eo_is (eo_cl (ec_lentR (.slf (.no (.im (.no (.no (.im (.no (.no (.no .nil))))))))) (ec_callSR (ea_c (er_var rfl) (ea_c (er_ix (er_fldP (i := 0) (j := 3) rfl gm.Book_c gm.Book_a__cells (by decide +kernel) rfl) (er_var rfl)) (ea_c (er_ix (er_var rfl) (er_var rfl)) ea_n)))))) rfl) (Nat.le_of_ble_eq_true rfl) (fun weights' =>
    wo_owcl (i := 6) rfl <| wq_moveApp2 (i := 0) (j := 6) (jf := 4) (jg := 5) (m := s__weights) (m2 := s__totals) (by decide) rfl rfl gm.Book_c gm.Book_a__weights gm.Book_a__totals (by decide +kernel) rfl (by decide +kernel) rfl (by decide) (.slf (.no (.im (.no (.no (.im (.no (.no (.no .nil))))))))) (ec_isR (ec_owR (eo_lcR (as := fun (p : List Int) => [(7, en p)]) (vs := [7]) (f := fun (cell' : List Int) => (mapL cell' (fun (world' : Int) => at_ weights' world')).bind fun v194 => .ok v194.sum) (sw_d (sr_l (er_ix (er_fldP (i := 0) (j := 3) rfl gm.Book_c gm.Book_a__cells (by decide +kernel) rfl) (er_var rfl)))) tg_n (wp1 rfl) (fun _ _ h => h) (fun cell' => (er_is (er_sum (er_fzO (eo_lcR (as := fun (p : Int) => [(8, en p)]) (vs := [8]) (f := fun (world' : Int) => at_ weights' world') (sw_d (sr_l (er_var rfl))) tg_n (wp1 rfl) (fun _ _ h => h) (fun world' => (er_is (er_ix (er_var rfl) (er_var rfl)) rfl))))) rfl)))) rfl) (Nat.le_of_ble_eq_true rfl) (fun s__weights s__totals =>
    wo_drop_ (i := 5) (Nat.le_of_ble_eq_true rfl) <| wo_nx rfl)))) (fun ⟨s__weights, s__totals⟩ =>
    wo_drop_ (i := 2) (Nat.le_of_ble_eq_true rfl) <| wo_nx rfl)))))))))) (fun t => e_Book_init t.1 t.2.1)⟩)

theorem ok_whole (F : Df K mg "whole" s_whole ["numbers"]) (gm : Gm K mg)  : FnG P w K mg base CX0 1 "whole" ["numbers"] (spD K (fnP (τ := (List (Int × Int)) × Unit) (kCl (γ := ((List Int) × Int))) fun t => m_whole t.1)) := by
  refine F.ok (k := 0) sc_whole (fn_len fun _ => rfl) (fun f cdv A outer s H E hr => ⟨_,
    (pss_cons (sv 1 sc_whole.nd pe_int) (pss_cons (ps_for PassesOwn.never rfl (pl K (pv 0)) (gt K (n := 2) rfl (pgs_cons (gn 2 sc_whole.nd) (pgs_cons (gn 3 sc_whole.nd) pgs_nil))) (pss_cons (sv 1 sc_whole.nd (pe_callBfun cLcm (by rfl) gm.lcm (pa_cons (pv 1) (pa_cons (pv 3) pa_nil)))) pss_nil)) (pss_one (ps_ret (pe_tup (pa_cons (pe_lc (own := [("n", 4), ("d", 3)]) rfl sc_whole.nd (pl K (pv 0)) (blkOk_by (N := N_whole) (sc := defScope s_whole) (by decide +kernel)) (fun _ _ _ _ _ => (gt K (n := 2) rfl (pgs_cons (gn 4 sc_whole.nd) (pgs_cons (gn 3 sc_whole.nd) pgs_nil)))) (fun _ _ _ _ _ => pts_nil) (fun _ _ _ _ _ => (pe_op opMul (pv 4) (pe_op opDiv (pv 1) (pv 3))))) (pa_cons (pv 1) pa_nil))))))),
    fn_w (fun t => [.im (en t.1), .no, .no, .no, .no]) (b := fun t => m_whole_b t.1) (r0 := .no) (eS := fun _ (_ : Unit) => [.no, .no, .no, .no, .no]) (eLL := fun _ (_ : Unit) => []) (fun _ => rfl) (fun ⟨numbers', _⟩ =>
    wq_asg_ (er_is er_int rfl) (fun factor' =>
    wo_seq (e1 := (up1 (fun (factor' : Int) => [.im (en numbers'), .im (en factor'), .no, .no, .no]))) (wo_for (as := fun (p : (Int × Int)) => [(2, en p.1), (3, en p.2)]) (e := (up1 (fun (factor' : Int) => [.im (en numbers'), .im (en factor'), .no, .no, .no]))) (f := fun (p197 : (Int × Int)) => up1 (m_whole_l1 p197.1 p197.2)) (s0 := factor') (sr_l (er_var rfl)) tg_2 rfl (fun ⟨_', d'⟩ factor' =>
    wq_asg_ (er_is (er_lcm (er_var rfl) (er_var rfl)) rfl) (fun factor' =>
    wo_drop_ (i := 2) (Nat.le_of_ble_eq_true rfl) <| wo_drop_ (i := 3) (Nat.le_of_ble_eq_true rfl) <| wo_nx rfl))) (fun factor' =>
    wo_is (wo_retC (ec_isR (ec_tup2 (ec_owR (eo_lcR (as := fun (p : (Int × Int)) => [(4, en p.1), (3, en p.2)]) (vs := [4, 3]) (f := fun (p199 : (Int × Int)) => (fun (n' : Int) (d' : Int) => (fdiv factor' d').bind fun v198 => mul n' v198) p199.1 p199.2) (sw_d (sr_l (er_var rfl))) tg_2 (wp2 rfl rfl) (fun _ _ h => h) (fun ⟨n', d'⟩ => (er_is (er_mul (er_var rfl) (er_div (er_var rfl) (er_var rfl))) rfl)))) (ec_scR (er_var rfl)) (fun _ _ => rfl) (fun _ _ => rfl)) rfl)) rfl))) (fun t => e_whole t.1) (.inl rfl)⟩)

theorem ok_ratio (F : Df K mg "ratio" s_ratio ["n", "d"]) (gm : Gm K mg)  : FnG P w K mg base (L2N.CX P w) 1 "ratio" ["n", "d"] (spD K (fnP (τ := Int × Int × Unit) (kIm (γ := (Int × Int))) fun t => m_ratio t.1 t.2.1)) := by
  refine F.okN (k := 0) sc_ratio (fn_len fun _ => rfl) (fun f cdv A outer s H E hr => ⟨_,
    (pss_cons (ps_if (pt_cmpR (kEq K hr.units) (pv 1) pe_int (nomark _)) (pss_one (ps_r0 gm.BadNumber_p rfl (L2N.takes_of rfl rfl rfl rfl))) pss_nil) (pss_cons (ps_if (pt_cmpR opLt (pv 1) pe_int (nomark _)) (pss_cons (sv 0 sc_ratio.nd (pe_un unNeg (pv 0))) (pss_cons (sv 1 sc_ratio.nd (pe_un unNeg (pv 1))) pss_nil)) pss_nil) (pss_cons (sv 2 sc_ratio.nd (pe_callBfun cr_gcd (by rfl) gm.gcd (pa_cons (pv 0) (pa_cons (pv 1) pa_nil)))) (pss_one (ps_ret (pe_tup (pa_cons (pe_op opDiv (pv 0) (pv 2)) (pa_cons (pe_op opDiv (pv 1) (pv 2)) pa_nil)))))))),
    fn_w (fun t => [.im (en t.1), .im (en t.2.1), .no]) (b := fun t => m_ratio_b t.1 t.2.1) (r0 := .no) (eS := fun _ (_ : Unit) => [.no, .no, .no]) (eLL := fun _ (_ : Unit) => []) (fun _ => rfl) (fun ⟨n', d', _⟩ =>
    wq_ifx (et_is (et_t (er_is (er_eq (er_var rfl) er_int) rfl)) rfl)
    (wo_raise0 gm.BadNumber_f)
    (wo_seq (e1 := (up2 (fun (n' : Int) (d' : Int) => [.im (en n'), .im (en d'), .no]))) (wo_if (et_is (et_t (er_is (er_lt (er_var rfl) er_int) rfl)) rfl)
    (wq_asg_ (er_is (er_neg (er_var rfl)) rfl) (fun n' =>
    wq_asg_ (er_is (er_neg (er_var rfl)) rfl) (fun d' =>
    wo_nx rfl)))
    (wo_nx rfl)) (fun ⟨n', d'⟩ =>
    wq_asg_ (er_is (er_gcd (er_var rfl) (er_var rfl)) rfl) (fun common' =>
    wo_is (wo_ret (er_is (er_tup2 (ea_c (er_div (er_var rfl) (er_var rfl)) (ea_c (er_div (er_var rfl) (er_var rfl)) ea_n))) rfl)) rfl)))) (fun t => e_ratio t.1 t.2.1) (.inl rfl)⟩)

theorem ok_plus (F : Dv K mg "plus" s_plus "numbers") (gm : Gm K mg)  (G_ratio : FnG P w K mg base (L2N.CX P w) 1 "ratio" ["n", "d"] (spD K (fnP (τ := Int × Int × Unit) (kIm (γ := (Int × Int))) fun t => m_ratio t.1 t.2.1))) : FnV P w K mg base CX0 2 "plus" (spV K (fnP (τ := (Tu (Int × Int)) × Unit) (kIm (γ := (Int × Int))) fun t => m_plus t.1)) := by
  refine F.ok (k := 1) sc_plus (fn_len fun _ => rfl) (fun f cdv A outer s H E hr => ⟨_,
    (pss_cons (sv 1 sc_plus.nd pe_int) (pss_cons (sv 2 sc_plus.nd pe_int) (pss_cons (ps_for PassesOwn.never rfl (pt K (pv 0)) (gt K (n := 2) rfl (pgs_cons (gn 3 sc_plus.nd) (pgs_cons (gn 4 sc_plus.nd) pgs_nil))) (pss_cons (sv 5 sc_plus.nd (pe_callBfun cr_gcd (by rfl) gm.gcd (pa_cons (pv 2) (pa_cons (pv 4) pa_nil)))) (pss_cons (sv 1 sc_plus.nd (pe_op (kAdd K) (pe_op opMul (pv 1) (pe_op opDiv (pv 4) (pv 5))) (pe_op opMul (pv 3) (pe_op opDiv (pv 2) (pv 5))))) (pss_cons (sv 2 sc_plus.nd (pe_op opMul (pe_op opDiv (pv 2) (pv 5)) (pv 4))) pss_nil)))) (pss_one (ps_ret (pe_g G_ratio hr.le passN (pa_cons (pv 1) (pa_cons (pv 2) pa_nil)))))))),
    fn_w (fun t => [.im (en t.1), .no, .no, .no, .no, .no]) (b := fun t => m_plus_b t.1) (r0 := .no) (eS := fun _ (_ : Unit) => [.no, .no, .no, .no, .no, .no]) (eLL := fun _ (_ : Unit) => []) (fun _ => rfl) (fun ⟨numbers', _⟩ =>
    wq_asg_ (er_is er_int rfl) (fun top' =>
    wq_asg_ (er_is er_int rfl) (fun bottom' =>
    wo_seq (e1 := (up2 (fun (top' : Int) (bottom' : Int) => [.im (en numbers'), .im (en top'), .im (en bottom'), .no, .no, .no]))) (wo_for (as := fun (p : (Int × Int)) => [(3, en p.1), (4, en p.2)]) (e := (up2 (fun (top' : Int) (bottom' : Int) => [.im (en numbers'), .im (en top'), .im (en bottom'), .no, .no, .no]))) (f := fun (p211 : (Int × Int)) => up2 (m_plus_l1 p211.1 p211.2)) (s0 := (top', bottom')) (sr_u (er_var rfl)) tg_2 rfl (fun ⟨n', d'⟩ ⟨top', bottom'⟩ =>
    wq_asg_ (er_is (er_gcd (er_var rfl) (er_var rfl)) rfl) (fun common' =>
    wq_asg_ (er_is (er_add (er_mul (er_var rfl) (er_div (er_var rfl) (er_var rfl))) (er_mul (er_var rfl) (er_div (er_var rfl) (er_var rfl)))) rfl) (fun top' =>
    wq_asg_ (er_is (er_mul (er_div (er_var rfl) (er_var rfl)) (er_var rfl)) rfl) (fun bottom' =>
    wo_drop_ (i := 3) (Nat.le_of_ble_eq_true rfl) <| wo_drop_ (i := 4) (Nat.le_of_ble_eq_true rfl) <| wo_drop_ (i := 5) (Nat.le_of_ble_eq_true rfl) <| wo_nx rfl))))) (fun ⟨top', bottom'⟩ =>
    wo_drop_ (i := 0) (Nat.le_of_ble_eq_true rfl) <| wo_is (wo_ret (er_is (er_call (ea_c (er_var rfl) (ea_c (er_var rfl) ea_n))) rfl)) rfl)))) (fun t => e_plus t.1) (.inl rfl)⟩)

theorem ok_is_shares (F : Df K mg "is_shares" s_is_shares ["row"]) (gm : Gm K mg)  (G_plus : FnV P w K mg base CX0 2 "plus" (spV K (fnP (τ := (Tu (Int × Int)) × Unit) (kIm (γ := (Int × Int))) fun t => m_plus t.1))) : FnG P w K mg base CX0 3 "is_shares" ["row"] (spD K (fnP (τ := (List (Int × Int)) × Unit) (kIm (γ := Bool)) fun t => m_is_shares t.1)) := by
  refine F.ok (k := 2) sc_is_shares (fn_len fun _ => rfl) (fun f cdv A outer s H E hr => ⟨_,
    (pss_cons (ps_for PassesOwn.never rfl (pl K (pv 0)) (gt K (n := 2) rfl (pgs_cons (gn 1 sc_is_shares.nd) (pgs_cons (gn 2 sc_is_shares.nd) pgs_nil))) (pss_one (ps_if (pt_cmpR opLt (pv 1) pe_int (nomark _)) (pss_one (ps_ret pe_bl)) pss_nil))) (pss_one (ps_ret (pe_cmpR (kEq K hr.units) (pe_gS G_plus hr.le pass0 (pv 0)) (pe_tupc K gm.ONE) (nomark _))))),
    fn_w (fun t => [.im (en t.1), .no, .no]) (b := fun t => m_is_shares_b t.1) (r0 := .no) (eS := fun _ (_ : Unit) => [.no, .no, .no]) (eLL := fun _ (_ : Unit) => []) (fun _ => rfl) (fun ⟨row', _⟩ =>
    wo_seq (e1 := (up0 [.im (en row'), .no, .no])) (wo_for (as := fun (p : (Int × Int)) => [(1, en p.1), (2, en p.2)]) (e := (up0 [.im (en row'), .no, .no])) (f := fun (p212 : (Int × Int)) => up0 (m_is_shares_l1 p212.1 p212.2)) (s0 := ()) (sr_l (er_var rfl)) tg_2 rfl (fun ⟨n', _'⟩ _ =>
    wo_if (et_is (et_t (er_is (er_lt (er_var rfl) er_int) rfl)) rfl)
    (wo_is (wo_ret (er_is er_bl rfl)) rfl)
    (wo_drop_ (i := 1) (Nat.le_of_ble_eq_true rfl) <| wo_drop_ (i := 2) (Nat.le_of_ble_eq_true rfl) <| wo_nx rfl))) (fun _ =>
    wo_is (wo_ret (er_is (er_eq (er_star (er_var rfl)) er_tupc2) rfl)) rfl)) (fun t => e_is_shares t.1) (.inl rfl)⟩)

theorem ok_Book_from_start (F : Dc K (Cm.at_ "Book") "from_start" "Book.from_start" s_Book_from_start ["cls", "sights", "start"]) (gm : Gm K mg)  (G_check_sights : FnG P w K mg base (L2N.CX P w) 1 "check_sights" ["sights"] (spD K (fnP (τ := (List (List Int)) × Unit) (kIm (γ := Unit)) fun t => m_check_sights t.1))) (G_is_shares : FnG P w K mg base CX0 3 "is_shares" ["row"] (spD K (fnP (τ := (List (Int × Int)) × Unit) (kIm (γ := Bool)) fun t => m_is_shares t.1))) (G_whole : FnG P w K mg base CX0 1 "whole" ["numbers"] (spD K (fnP (τ := (List (Int × Int)) × Unit) (kCl (γ := ((List Int) × Int))) fun t => m_whole t.1))) (G_lowest : FnG P w K mg base (L2N.CX P w) 3 "lowest" ["person", "cells", "weights"] (spD K (fnP (τ := Int × (List (List Int)) × (List Int) × Unit) (kCl (γ := (List Int))) fun t => m_lowest t.1 t.2.1 t.2.2.1))) (G_gathered : FnG P w K mg base CX0 1 "gathered" ["labels"] (spD K (fnP (τ := (List Int) × Unit) (kCl (γ := (List (List Int)))) fun t => m_gathered t.1))) (G_numbered : FnG P w K mg base CX0 1 "numbered" ["row"] (spD K (fnP (τ := (List Int) × Unit) (kCl (γ := (List Int))) fun t => m_numbered t.1))) (G_Book : FnI P w K mg base (L2N.CX P w) 4 (Cm.at_ "Book") "Book" ["self", "sights", "odds"] (spMk K (Cm.at_ "Book") (fnMk (τ := (List (List Int)) × (List (List Int)) × Unit) (γ := Book) fun t => m_Book_init t.1 t.2.1))) : FnC P w K mg base (L2N.CX P w) 6 (Cm.at_ "Book") "from_start" ["cls", "sights", "start"] (spD K (fnP (τ := (Cl "Book") × (List (List Int)) × (List (Int × Int)) × Unit) (kCl (γ := Book)) fun t => m_Book_from_start t.1 t.2.1 t.2.2.1)) := by
  refine F.okN (k := 5) sc_Book_from_start (fn_len fun _ => rfl) (fun f cdv A outer s H E hr => ⟨_,
    (pss_cons (ps_expr (pe_gX G_check_sights hr.le (L2N.takes_of rfl rfl rfl rfl) (pa_cons (pv 1) pa_nil))) (pss_cons (ps_if (PW.pt (pw_or (pt_cmpR (kNe K hr.units) (cb (kLen K) gm.len (pa_cons (pv 2) pa_nil)) (cb (kLen K) gm.len (pa_cons (ix K (pv 1) pe_int) pa_nil)) (nomark _)) (pw_or1 (pt_not (pt_val (pe_g G_is_shares hr.le pass0 (pa_cons (pv 2) pa_nil))))))) (pss_one (ps_r0 gm.BadRow_p rfl (L2N.takes_of rfl rfl rfl rfl))) pss_nil) (pss_cons (sv 3 sc_Book_from_start.nd (ix K (pe_g G_whole hr.le pass0 (pa_cons (pv 2) pa_nil)) pe_int)) (pss_cons (sv 4 sc_Book_from_start.nd (pe_lst pa_nil)) (pss_cons (ps_for (passes_of rfl) rfl (pi_range1 (by rfl) gm.range (pa_cons (cb (kLen K) gm.len (pa_cons (pv 1) pa_nil)) pa_nil)) (gn 5 sc_Book_from_start.nd) (pss_cons (ps_expr (ml_append K (pv 4) (pa_cons (pe_gX G_lowest hr.le (L2N.takes_of rfl rfl rfl rfl) (pa_cons (pv 5) (pa_cons (pe_g G_gathered hr.le pass0 (pa_cons (pe_g G_numbered hr.le pass0 (pa_cons (ix K (pv 1) (pv 5)) pa_nil)) pa_nil)) (pa_cons (pv 3) pa_nil)))) pa_nil))) pss_nil)) (pss_one (ps_ret (pe_mkL (i := 0) G_Book hr.le (L2N.takes_of rfl rfl rfl rfl) rfl (by first | exact Or.inl rfl | exact Or.inr (Or.inl rfl) | exact Or.inr (Or.inr rfl)) (pa_cons (pv 1) (pa_cons (pv 4) pa_nil)))))))))),
    fn_w (fun t => [.im (en t.1), .im (en t.2.1), .im (en t.2.2.1), .no, .no, .no]) (b := fun t => m_Book_from_start_b t.1 t.2.1 t.2.2.1) (r0 := .no) (eS := fun _ (_ : Unit) => [.no, .no, .no, .no, .no, .no]) (eLL := fun _ (_ : Unit) => []) (fun _ => rfl) (fun ⟨cls', sights', start', _⟩ =>
    wq_drop_ (er_is (er_callS (ea_c (er_var rfl) ea_n)) rfl) (fun _ =>
    wq_ifx (et_is (et_orR (et_is (et_t (er_is (er_ne (er_len (er_var rfl)) (er_len (er_ix (er_var rfl) er_int))) rfl)) rfl) (et_is (et_n (et_b (er_is (er_call (ea_c (er_var rfl) ea_n)) rfl))) rfl)) rfl)
    (wo_raise0 gm.BadRow_f)
    (wq_asg_ (er_is (er_p1 (er_fz (ec_callR (ea_c (er_var rfl) ea_n)))) rfl) (fun weights' =>
    wq_asgO_ (eo_is (eo_lst (el_n (α := List Int))) rfl) (Nat.le_of_ble_eq_true rfl) (fun odds' =>
    wo_drop_ (i := 2) (Nat.le_of_ble_eq_true rfl) <| wo_seq (e1 := (up1 (fun (odds' : List (List Int)) => [.im (en cls'), .im (en sights'), .no, .im (en weights'), .ow (odds'.map en), .no]))) (wo_for (as := fun (p : Int) => [(5, en p)]) (e := (up1 (fun (odds' : List (List Int)) => [.im (en cls'), .im (en sights'), .no, .im (en weights'), .ow (odds'.map en), .no]))) (f := fun (person' : Int) => up1 (m_Book_from_start_l1 sights' weights' person')) (s0 := odds') (sr_r1 (er_len (er_var rfl))) tg_n rfl (fun person' odds' =>
    wq_appO_ (i := 4) rfl (er_is (er_fz (ec_callSR (ea_c (er_var rfl) (ea_c (er_fz (ec_callR (ea_c (er_fz (ec_callR (ea_c (er_ix (er_var rfl) (er_var rfl)) ea_n))) ea_n))) (ea_c (er_var rfl) ea_n))))) rfl) (fun odds' =>
    wo_drop_ (i := 5) (Nat.le_of_ble_eq_true rfl) <| wo_nx rfl))) (fun odds' =>
    wo_drop_ (i := 3) (Nat.le_of_ble_eq_true rfl) <| wo_fzO (i := 4) rfl <| wo_is (wo_retC (ec_isR (ec_mkLR (i := 0) rfl (ea_c (er_var rfl) (ea_c (er_var rfl) ea_n))) rfl)) rfl)))))) (fun t => e_Book_from_start t.1 t.2.1 t.2.2.1) (.inl rfl)⟩)

theorem okh_law_plain (F : Df K mg "_law_plain" s_law_plain ["actual"]) (gm : Gm K mg)  : FnGE P w K mg base 1 "_law_plain" ["actual"] (fun a c d => spD K (fnP (τ := Dy × Unit) (kIm (γ := Dy)) fun t => m_law_plain t.1)) := by
  refine F.okE (k := 0) sc_law_plain (fun a c d => fn_len fun _ => rfl) (fun f cdv A outer s H E a oe cls d hh hz hf hr => ⟨_,
    (pss_cons (ps_if (PW.pt (pw_and (pt_val (cb (kIsi K) gm.isinstance (pa_cons (pv 0) (pa_cons (pe_bltn (v := .ty "int") (by rfl) gm.int (by decide +kernel) rfl) pa_nil)))) (pw_and1 (pt_not (pt_val (cb (kIsi K) gm.isinstance (pa_cons (pv 0) (pa_cons (pe_bltn (v := .ty "bool") (by rfl) gm.bool (by decide +kernel) rfl) pa_nil)))))))) (pss_one (ps_ret (pv 0))) pss_nil) (pss_one (ps_ret pe_str))),
    fn_w (τ := Dy × Unit) (b := fun t => m_law_plain_b t.1) (fun t => [.im (en t.1)]) (r0 := .no) (eS := fun _ (_ : Unit) => [.no]) (eLL := fun _ (_ : Unit) => []) (fun _ => rfl) (fun ⟨actual', _⟩ =>
    wq_ifx (et_is (et_andR (et_is (et_b (er_is (er_isi_int (er_var rfl)) rfl)) rfl) (et_is (et_n (et_b (er_is (er_isi_bool (er_var rfl)) rfl))) rfl)) rfl)
    (wo_is (wo_ret (er_is (er_var rfl) rfl)) rfl)
    (wo_is (wo_ret (er_is (er_dy er_str) rfl)) rfl)) (fun t => e_law_plain t.1) (.inl rfl)⟩)

theorem ok_law_ask (F : Df K mg "_law_ask" s_law_ask ["sights", "start"]) (gm : Gm K mg)  (G_Book_from_start : FnC P w K mg base (L2N.CX P w) 6 (Cm.at_ "Book") "from_start" ["cls", "sights", "start"] (spD K (fnP (τ := (Cl "Book") × (List (List Int)) × (List (Int × Int)) × Unit) (kCl (γ := Book)) fun t => m_Book_from_start t.1 t.2.1 t.2.2.1))) (GE_law_plain : FnGE P w K mg base 1 "_law_plain" ["actual"] (fun a c d => spD K (fnP (τ := Dy × Unit) (kIm (γ := Dy)) fun t => m_law_plain t.1))) : FnG P w K mg base CX0 7 "_law_ask" ["sights", "start"] (spD K (fnP (τ := (List (List Int)) × (List (Int × Int)) × Unit) (kIm (γ := (List Dy))) fun t => m_law_ask t.1 t.2.1)) := by
  refine F.ok (k := 6) sc_law_ask (fn_len fun _ => rfl) (fun f cdv A outer s H E hr => ⟨_,
    (pss_cons (ps_setLc (i := 2) (own := [("row", 3)]) rfl sc_law_ask.nd rfl rfl (sw_true rfl rfl rfl (by decide +kernel)) (pl K (pv 0)) (blkOk_by (N := N_law_ask) (sc := defScope s_law_ask) (by decide +kernel)) (fun _ _ _ _ _ => (gn 3 sc_law_ask.nd)) (fun _ _ _ _ _ => pts_nil) (fun _ _ _ _ _ => (ct (kList K) gm.list (pa_cons (pv 3) pa_nil)))) (pss_cons (sv 3 sc_law_ask.nd (ct (kList K) gm.list (pa_cons (pv 1) pa_nil))) (pss_cons (sv 4 sc_law_ask.nd (pe_lst (pa_cons pe_str pa_nil))) (pss_cons (ps_tryN (i := 5) rfl rfl sc_law_ask.nd rfl rfl ⟨rfl, by decide, .inl gm.Fault_v⟩ takesN0 (fun W pn xe tk pw => (pss_cons (sv 4 sc_law_ask.nd (pe_lst (pa_cons pe_str (pa_cons (pe_cmX G_Book_from_start hr.le tk (gc gm.Book_v) (pa_cons (pv 2) (pa_cons (pv 3) pa_nil))) pa_nil)))) pss_nil)) (fun a oe cls d pn hz hf => (pss_cons (sv 6 sc_law_ask.nd (pe_lst (pa_cons (cb (kIsX K List.mem_cons_self hz hf) gm.isinstance (pa_cons (pv 5) (pa_cons (gc gm.BadBook_v) pa_nil))) (pa_cons (cb (kIsX K List.mem_cons_self hz hf) gm.isinstance (pa_cons (pv 5) (pa_cons (gc gm.BadRow_v) pa_nil))) (pa_cons (cb (kIsX K List.mem_cons_self hz hf) gm.isinstance (pa_cons (pv 5) (pa_cons (gc gm.BadOdds_v) pa_nil))) (pa_cons (cb (kIsX K List.mem_cons_self hz hf) gm.isinstance (pa_cons (pv 5) (pa_cons (gc gm.BadOrder_v) pa_nil))) pa_nil)))))) (pss_cons (ps_expr (ml_append K (pv 6) (pa_cons (cb (kIsX K List.mem_cons_self hz hf) gm.isinstance (pa_cons (pv 5) (pa_cons (gc gm.BadText_v) pa_nil))) pa_nil))) (pss_cons (ps_if (pt_cmpR (kEq K hr.units) (pv 6) (pe_lst (pa_cons pe_bl (pa_cons pe_bl (pa_cons pe_bl (pa_cons pe_bl (pa_cons pe_bl pa_nil)))))) (nomark _)) (pss_cons (sv 4 sc_law_ask.nd (pe_lst (pa_cons pe_str pa_nil))) pss_nil) pss_nil) (pss_cons (ps_if (pt_cmpR (kEq K hr.units) (pv 6) (pe_lst (pa_cons pe_bl (pa_cons pe_bl (pa_cons pe_bl (pa_cons pe_bl (pa_cons pe_bl pa_nil)))))) (nomark _)) (pss_cons (sv 4 sc_law_ask.nd (pe_lst (pa_cons pe_str pa_nil))) pss_nil) pss_nil) (pss_one (ps_if (pt_cmpR (kEq K hr.units) (pv 6) (pe_lst (pa_cons pe_bl (pa_cons pe_bl (pa_cons pe_bl (pa_cons pe_bl (pa_cons pe_bl pa_nil)))))) (nomark _)) (pss_cons (sv 4 sc_law_ask.nd (pe_lst (pa_cons pe_str (pa_cons (pe_hE GE_law_plain (roomS hr) List.mem_cons_self rfl hz hf (pa_cons (kXf K List.mem_cons_self hz hf (pv 5)) pa_nil)) (pa_cons (pe_hE GE_law_plain (roomS hr) List.mem_cons_self rfl hz hf (pa_cons (kXf K List.mem_cons_self hz hf (pv 5)) pa_nil)) pa_nil))))) pss_nil) pss_nil)))))))) (pss_cons (ps_if (PW.pt (pw_or (pt_cmpR (kNe K hr.units) (pv 2) (pv 0) (nomark _)) (pw_or1 (pt_cmpR (kNe K hr.units) (pv 3) (pv 1) (nomark _))))) (pss_one (ps_ret (pe_lst (pa_cons pe_str pa_nil)))) pss_nil) (pss_cons (ps_for PassesOwn.never rfl (pl K (pv 2)) (gn 7 sc_law_ask.nd) (pss_cons (ps_expr (pe_bm0 PySem.F.plainAttrs_list PySem.F.slot_list_clear PySem.F.type_list_clear mt_clear (pv 7))) pss_nil)) (pss_cons (ps_expr (pe_bm0 PySem.F.plainAttrs_list PySem.F.slot_list_clear PySem.F.type_list_clear mt_clear (pv 3))) (pss_one (ps_ret (pv 4)))))))))),
    fn_w (fun t => [.im (en t.1), .im (en t.2.1), .no, .no, .no, .no, .no, .no]) (b := fun t => m_law_ask_b t.1 t.2.1) (r0 := .no) (eS := fun _ (_ : Unit) => [.no, .no, .no, .no, .no, .no, .no, .no]) (eLL := fun _ (_ : Unit) => []) (fun _ => rfl) (fun ⟨sights', start', _⟩ =>
    wq_asgC_ (ec_isR (ec_lcP (as := fun (p : List Int) => [(3, en p)]) (vs := [3]) (f := fun (row' : List Int) => row') (sw_d (sr_l (er_var rfl))) tg_n (wp1 rfl) (fun _ _ h => h) (fun row' => (ec_isR (ec_owR (eo_list (er_var rfl))) rfl))) rfl) (Nat.le_of_ble_eq_true rfl) (fun handed' =>
    wq_asgO_ (eo_is (eo_list (er_var rfl)) rfl) (Nat.le_of_ble_eq_true rfl) (fun row' =>
    wq_asg_ (er_is (er_fzO (eo_lst (el_c (er_dy er_str) el_n))) rfl) (fun answer' =>
    wo_seq (e1 := (up1 (fun (answer' : List Dy) => [.im (en sights'), .im (en start'), .cl (eo handed'), .ow (row'.map en), .im (en answer'), .no, .no, .no]))) (wo_try (errs := ERRS) (fun W' =>
    wx_asg_ (er_is (er_fzO (eo_lst (el_c (er_dy er_str) (el_c (er_dy (er_fz (ec_lentR (.im (.im (.cl (.ow (.im (.no (.no (.no .nil)))))))) (ec_callSR (ea_recvC (C := "Book") (ea_c (er_var rfl) (ea_c (er_var rfl) ea_n))))))) el_n)))) rfl) (f := fun (answer' : List Dy) => answer') (fun answer' =>
    wo_nx rfl)) gm.xm (fun _ _ _ e' =>
    wq_asgO_ (eo_is (eo_lst (el_c (er_isX (errs := ERRS) rfl gm.xe gm.xk_BadBook) (el_c (er_isX (errs := ERRS) rfl gm.xe gm.xk_BadRow) (el_c (er_isX (errs := ERRS) rfl gm.xe gm.xk_BadOdds) (el_c (er_isX (errs := ERRS) rfl gm.xe gm.xk_BadOrder) el_n))))) rfl) (Nat.le_of_ble_eq_true rfl) (fun kinds' =>
    wq_appO_ (i := 6) rfl (er_is (er_isX (errs := ERRS) rfl gm.xe gm.xk_BadText) rfl) (fun kinds' =>
    wo_fzO (i := 6) rfl <| wo_seq (e1 := (up1 (fun (answer' : List Dy) => [.im (en sights'), .im (en start'), .cl (eo handed'), .ow (row'.map en), .im (en answer'), .im (en e'), .im (en kinds'), .no]))) (wo_if (et_is (et_t (er_is (er_eq (er_var rfl) (er_fzO (eo_lst (el_c er_bl (el_c er_bl (el_c er_bl (el_c er_bl (el_c er_bl el_n)))))))) rfl)) rfl)
    (wq_asg_ (er_is (er_fzO (eo_lst (el_c (er_dy er_str) el_n))) rfl) (fun answer' =>
    wo_nx rfl))
    (wo_nx rfl)) (fun answer' =>
    wo_seq (e1 := (up1 (fun (answer' : List Dy) => [.im (en sights'), .im (en start'), .cl (eo handed'), .ow (row'.map en), .im (en answer'), .im (en e'), .im (en kinds'), .no]))) (wo_if (et_is (et_t (er_is (er_eq (er_var rfl) (er_fzO (eo_lst (el_c er_bl (el_c er_bl (el_c er_bl (el_c er_bl (el_c er_bl el_n)))))))) rfl)) rfl)
    (wq_asg_ (er_is (er_fzO (eo_lst (el_c (er_dy er_str) el_n))) rfl) (fun answer' =>
    wo_nx rfl))
    (wo_nx rfl)) (fun answer' =>
    wo_if (et_is (et_t (er_is (er_eq (er_var rfl) (er_fzO (eo_lst (el_c er_bl (el_c er_bl (el_c er_bl (el_c er_bl (el_c er_bl el_n)))))))) rfl)) rfl)
    (wq_asg_ (er_is (er_fzO (eo_lst (el_c (er_dy er_str) (el_c (er_call (ea_c (er_xf (cs := XF_person) rfl gm.xf_person) ea_n)) (el_c (er_call (ea_c (er_xf (cs := XF_world) rfl gm.xf_world) ea_n)) el_n))))) rfl) (fun answer' =>
    wo_drop_ (i := 5) (Nat.le_of_ble_eq_true rfl) <| wo_drop_ (i := 6) (Nat.le_of_ble_eq_true rfl) <| wo_nx rfl))
    (wo_drop_ (i := 5) (Nat.le_of_ble_eq_true rfl) <| wo_drop_ (i := 6) (Nat.le_of_ble_eq_true rfl) <| wo_nx rfl)))))) (fun _ => rfl) (fun _ => rfl)) (fun answer' =>
    wq_ifx (et_is (et_lentR (.im (.im (.cl (.ow (.im (.no (.no (.no .nil)))))))) (et_orP (et_is (et_t (er_is (er_ne (er_var rfl) (er_var rfl)) rfl)) rfl) (et_is (et_t (er_is (er_ne (er_var rfl) (er_var rfl)) rfl)) rfl))) rfl)
    (wo_is (wo_ret (er_is (er_fzO (eo_lst (el_c (er_dy er_str) el_n))) rfl)) rfl)
    (wq_forClr (i := 2) (j := 7) rfl rfl (by decide) (fun handed' =>
    wo_fzC (i := 2) rfl <| wq_clrO (i := 3) rfl (fun row' =>
    wo_fzO (i := 3) rfl <| wo_is (wo_ret (er_is (er_var rfl) rfl)) rfl)))))))) (fun t => e_law_ask t.1 t.2.1) (.inl rfl)⟩)

theorem ok_law_same (F : Df K mg "_law_same" s_law_same ["actual", "due"]) (gm : Gm K mg)  : ∀ n_ : Nat, FnG P w K mg base CX0 (0 + n_) "_law_same" ["actual", "due"] (spD K (fnP (τ := Dy × Dy × Unit) (kIm (γ := Bool)) fun t => m_law_same n_ t.1 t.2.1))
  | 0 => F.none.imp fun ds R Z h => by
    obtain ⟨t, _, h⟩ := h
    rw [z_law_same] at h
    exact h
  | n_ + 1 => by
    have G_law_same := ok_law_same F gm  n_
    refine F.ok (k := 0 + n_) sc_law_same (fn_len fun _ => rfl) (fun f cdv A outer s H E hr => ⟨_,
    (pss_cons (ps_if (pt_cmpR opIsN (pv 1) pe_non (nomark _)) (pss_one (ps_ret (pe_cmpR opIsN (pv 0) pe_non (nomark _)))) pss_nil) (pss_cons (ps_if (pt_val (cb (kIsi K) gm.isinstance (pa_cons (pv 1) (pa_cons (pe_bltn (v := .ty "int") (by rfl) gm.int (by decide +kernel) rfl) pa_nil)))) (pss_one (ps_ret (pe_and (cb (kIsi K) gm.isinstance (pa_cons (pv 0) (pa_cons (pe_bltn (v := .ty "int") (by rfl) gm.int (by decide +kernel) rfl) pa_nil))) (pe_and (pe_not (cb (kIsi K) gm.isinstance (pa_cons (pv 0) (pa_cons (pe_bltn (v := .ty "bool") (by rfl) gm.bool (by decide +kernel) rfl) pa_nil)))) (pe_one (pe_cmpR (kEq K hr.units) (pv 0) (pv 1) (nomark _))))))) pss_nil) (pss_cons (ps_if (pt_val (cb (kIsi K) gm.isinstance (pa_cons (pv 1) (pa_cons (pe_bltn (v := .ty "tuple") (by rfl) gm.tuple (by decide +kernel) rfl) pa_nil)))) (pss_one (ps_if (PW.pt (pw_or (pt_not (pt_val (cb (kIsi K) gm.isinstance (pa_cons (pv 0) (pa_cons (pe_bltn (v := .ty "tuple") (by rfl) gm.tuple (by decide +kernel) rfl) pa_nil))))) (pw_or1 (pt_cmpR (kNe K hr.units) (cb (kLen K) gm.len (pa_cons (pv 0) pa_nil)) (cb (kLen K) gm.len (pa_cons (pv 1) pa_nil)) (nomark _))))) (pss_one (ps_ret pe_bl)) pss_nil)) (pss_one (ps_if (PW.pt (pw_or (pt_not (pt_val (cb (kIsi K) gm.isinstance (pa_cons (pv 0) (pa_cons (pe_bltn (v := .ty "list") (by rfl) gm.list (by decide +kernel) rfl) pa_nil))))) (pw_or1 (pt_cmpR (kNe K hr.units) (cb (kLen K) gm.len (pa_cons (pv 0) pa_nil)) (cb (kLen K) gm.len (pa_cons (pv 1) pa_nil)) (nomark _))))) (pss_one (ps_ret pe_bl)) pss_nil))) (pss_cons (ps_for PassesOwn.never rfl (pi_range1 (by rfl) gm.range (pa_cons (cb (kLen K) gm.len (pa_cons (pv 1) pa_nil)) pa_nil)) (gn 2 sc_law_same.nd) (pss_one (ps_if (pt_not (pt_val (pe_g G_law_same hr.le pass0 (pa_cons (ix K (pv 0) (pv 2)) (pa_cons (ix K (pv 1) (pv 2)) pa_nil))))) (pss_one (ps_ret pe_bl)) pss_nil))) (pss_one (ps_ret pe_bl)))))),
    fn_w (fun t => [.im (en t.1), .im (en t.2.1), .no]) (b := fun t => m_law_same_b (m_law_same n_) t.1 t.2.1) (r0 := .no) (eS := fun _ (_ : Unit) => [.no, .no, .no]) (eLL := fun _ (_ : Unit) => []) (fun _ => rfl) (fun ⟨actual', due', _⟩ =>
    wq_ifx (et_is (et_t (er_is (er_isN (er_var rfl)) rfl)) rfl)
    (wo_is (wo_ret (er_is (er_isN (er_var rfl)) rfl)) rfl)
    (wq_ifx (et_is (et_b (er_is (er_isi_int (er_var rfl)) rfl)) rfl)
    (wo_is (wo_ret (er_is (er_andR (er_is (er_isi_int (er_var rfl)) rfl) (er_is (er_andR (er_is (er_notV (er_isi_bool (er_var rfl))) rfl) (er_is (er_eqD (er_var rfl) (er_var rfl)) rfl)) rfl)) rfl)) rfl)
    (wo_seq (e1 := (up0 [.im (en actual'), .im (en due'), .no])) (wo_if (et_is (et_b (er_is (er_isi_tuple (er_var rfl)) rfl)) rfl)
    (wo_if (et_is (et_orR (et_is (et_n (et_b (er_is (er_isi_tuple (er_var rfl)) rfl))) rfl) (et_is (et_t (er_is (er_ne (er_lenD (er_var rfl)) (er_lenD (er_var rfl))) rfl)) rfl)) rfl)
    (wo_is (wo_ret (er_is er_bl rfl)) rfl)
    (wo_nx rfl))
    (wo_if (et_is (et_orR (et_is (et_n (et_b (er_is (er_isi_list (er_var rfl)) rfl))) rfl) (et_is (et_t (er_is (er_ne (er_lenD (er_var rfl)) (er_lenD (er_var rfl))) rfl)) rfl)) rfl)
    (wo_is (wo_ret (er_is er_bl rfl)) rfl)
    (wo_nx rfl))) (fun _ =>
    wo_seq (e1 := (up0 [.im (en actual'), .im (en due'), .no])) (wo_for (as := fun (p : Int) => [(2, en p)]) (e := (up0 [.im (en actual'), .im (en due'), .no])) (f := fun (k' : Int) => up0 (m_law_same_l1 (m_law_same n_) actual' due' k')) (s0 := ()) (sr_r1 (er_lenD (er_var rfl))) tg_n rfl (fun k' _ =>
    wo_if (et_is (et_n (et_b (er_is (er_call (ea_c (er_ixD (er_var rfl) (er_var rfl)) (ea_c (er_ixD (er_var rfl) (er_var rfl)) ea_n))) rfl))) rfl)
    (wo_is (wo_ret (er_is er_bl rfl)) rfl)
    (wo_drop_ (i := 2) (Nat.le_of_ble_eq_true rfl) <| wo_nx rfl))) (fun _ =>
    wo_drop_ (i := 0) (Nat.le_of_ble_eq_true rfl) <| wo_drop_ (i := 1) (Nat.le_of_ble_eq_true rfl) <| wo_is (wo_ret (er_is er_bl rfl)) rfl))))) (fun t => e_law_same n_ t.1 t.2.1) (.inl rfl)⟩)

theorem ok_Book_sights (F : Dm K (Cm.at_ "Book") "sights" "Book.sights" s_Book_sights ["self"]) (gm : Gm K mg)  : FnM P w K mg base CX0 1 (Cm.at_ "Book") "sights" ["self"] (spD K (fnP (τ := Book × Unit) (kCl (γ := (List (List Int)))) fun t => m_Book_sights t.1)) := by
  refine F.ok (k := 0) sc_Book_sights (fn_len fun _ => rfl) (fun f cdv A outer s H E hr => ⟨_,
    (pss_one (ps_ret (pe_lc (own := [("row", 1)]) rfl sc_Book_sights.nd (pl K (fl K (pv 0))) (blkOk_by (N := N_Book_sights) (sc := defScope s_Book_sights) (by decide +kernel)) (fun _ _ _ _ _ => (gn 1 sc_Book_sights.nd)) (fun _ _ _ _ _ => pts_nil) (fun _ _ _ _ _ => (ct (kList K) gm.list (pa_cons (pv 1) pa_nil)))))),
    fn_w (fun t => [.im (en t.1), .no]) (b := fun t => m_Book_sights_b t.1) (r0 := .no) (eS := fun _ (_ : Unit) => [.no, .no]) (eLL := fun _ (_ : Unit) => []) (fun _ => rfl) (fun ⟨self', _⟩ =>
    wo_is (wo_retC (ec_isR (ec_lcP (as := fun (p : List Int) => [(1, en p)]) (vs := [1]) (f := fun (row' : List Int) => row') (sw_d (sr_l (er_fld (j := 2) (get := fun (b : Book) => b.f__labels) gm.Book_fs (by decide +kernel) (fun _ => rfl) gm.Book_c gm.Book_a__labels (er_var rfl)))) tg_n (wp1 rfl) (fun _ _ h => h) (fun row' => (ec_isR (ec_owR (eo_list (er_var rfl))) rfl))) rfl)) rfl) (fun t => e_Book_sights t.1) (.inl rfl)⟩)

theorem ok_Book_odds (F : Dm K (Cm.at_ "Book") "odds" "Book.odds" s_Book_odds ["self"]) (gm : Gm K mg)  : FnM P w K mg base CX0 1 (Cm.at_ "Book") "odds" ["self"] (spD K (fnP (τ := Book × Unit) (kCl (γ := (List (List Int)))) fun t => m_Book_odds t.1)) := by
  refine F.ok (k := 0) sc_Book_odds (fn_len fun _ => rfl) (fun f cdv A outer s H E hr => ⟨_,
    (pss_one (ps_ret (pe_lc (own := [("row", 1)]) rfl sc_Book_odds.nd (pl K (fl K (pv 0))) (blkOk_by (N := N_Book_odds) (sc := defScope s_Book_odds) (by decide +kernel)) (fun _ _ _ _ _ => (gn 1 sc_Book_odds.nd)) (fun _ _ _ _ _ => pts_nil) (fun _ _ _ _ _ => (ct (kList K) gm.list (pa_cons (pv 1) pa_nil)))))),
    fn_w (fun t => [.im (en t.1), .no]) (b := fun t => m_Book_odds_b t.1) (r0 := .no) (eS := fun _ (_ : Unit) => [.no, .no]) (eLL := fun _ (_ : Unit) => []) (fun _ => rfl) (fun ⟨self', _⟩ =>
    wo_is (wo_retC (ec_isR (ec_lcP (as := fun (p : List Int) => [(1, en p)]) (vs := [1]) (f := fun (row' : List Int) => row') (sw_d (sr_l (er_fld (j := 4) (get := fun (b : Book) => b.f__weights) gm.Book_fs (by decide +kernel) (fun _ => rfl) gm.Book_c gm.Book_a__weights (er_var rfl)))) tg_n (wp1 rfl) (fun _ _ h => h) (fun row' => (ec_isR (ec_owR (eo_list (er_var rfl))) rfl))) rfl)) rfl) (fun t => e_Book_odds t.1) (.inl rfl)⟩)

theorem ok_law_agrees (F : Df K mg "_law_agrees" s_law_agrees ["sights", "start"]) (gm : Gm K mg)  (G_law_due : FnG P w K mg base CX0 3 "_law_due" ["sights", "start"] (spD K (fnP (τ := (List (List Int)) × (List (Int × Int)) × Unit) (kIm (γ := (List Dy))) fun t => m_law_due t.1 t.2.1))) (G_law_ask : FnG P w K mg base CX0 7 "_law_ask" ["sights", "start"] (spD K (fnP (τ := (List (List Int)) × (List (Int × Int)) × Unit) (kIm (γ := (List Dy))) fun t => m_law_ask t.1 t.2.1))) (G_law_same : FnG P w K mg base CX0 8 "_law_same" ["actual", "due"] (spD K (fnP (τ := Dy × Dy × Unit) (kIm (γ := Bool)) fun t => m_law_same 8 t.1 t.2.1))) (G_Book_sights : FnM P w K mg base CX0 1 (Cm.at_ "Book") "sights" ["self"] (spD K (fnP (τ := Book × Unit) (kCl (γ := (List (List Int)))) fun t => m_Book_sights t.1))) (G_Book_odds : FnM P w K mg base CX0 1 (Cm.at_ "Book") "odds" ["self"] (spD K (fnP (τ := Book × Unit) (kCl (γ := (List (List Int)))) fun t => m_Book_odds t.1))) : FnG P w K mg base CX0 9 "_law_agrees" ["sights", "start"] (spD K (fnP (τ := (List (List Int)) × (List (Int × Int)) × Unit) (kIm (γ := Bool)) fun t => m_law_agrees t.1 t.2.1)) := by
  refine F.ok (k := 8) sc_law_agrees (fn_len fun _ => rfl) (fun f cdv A outer s H E hr => ⟨_,
    (pss_cons (sv 2 sc_law_agrees.nd (pe_g G_law_due hr.le pass0 (pa_cons (pv 0) (pa_cons (pv 1) pa_nil)))) (pss_cons (sv 3 sc_law_agrees.nd (pe_g G_law_ask hr.le pass0 (pa_cons (pv 0) (pa_cons (pv 1) pa_nil)))) (pss_cons (ps_if (pt_cmpR (kNe K hr.units) (ix K (pv 2) pe_int) pe_str (nomark _)) (pss_one (ps_ret (pe_cmpR (kEq K hr.units) (pv 3) (pv 2) (nomark _)))) pss_nil) (pss_cons (ps_if (PW.pt (pw_or (pt_cmpR (kNe K hr.units) (ix K (pv 3) pe_int) pe_str (nomark _)) (pw_or1 (pt_not (pt_val (cb (kIsi K) gm.isinstance (pa_cons (ix K (pv 3) pe_int) (pa_cons (gc gm.Book_v) pa_nil)))))))) (pss_one (ps_ret pe_bl)) pss_nil) (pss_cons (sv 4 sc_law_agrees.nd (ix K (pv 3) pe_int)) (pss_cons (ps_if (PW.pt (pw_or (pt_not (pt_val (pe_g G_law_same hr.le pass0 (pa_cons (fl K (pv 4)) (pa_cons (cb (kLen K) gm.len (pa_cons (ix K (ix K (pv 2) pe_int) pe_int) pa_nil)) pa_nil))))) (pw_or1 (pt_not (pt_val (pe_g G_law_same hr.le pass0 (pa_cons (fl K (pv 4)) (pa_cons (cb (kLen K) gm.len (pa_cons (ix K (pv 2) pe_int) pa_nil)) pa_nil)))))))) (pss_one (ps_ret pe_bl)) pss_nil) (pss_one (ps_ret (pe_and (pe_g G_law_same hr.le pass0 (pa_cons (pe_m0 G_Book_sights gm.Book_c hr.le pass0 (pv 4)) (pa_cons (ix K (pv 2) pe_int) pa_nil))) (pe_one (pe_g G_law_same hr.le pass0 (pa_cons (pe_m0 G_Book_odds gm.Book_c hr.le pass0 (pv 4)) (pa_cons (ix K (pv 2) pe_int) pa_nil))))))))))))),
    fn_w (fun t => [.im (en t.1), .im (en t.2.1), .no, .no, .no]) (b := fun t => m_law_agrees_b t.1 t.2.1) (r0 := .no) (eS := fun _ (_ : Unit) => [.no, .no, .no, .no, .no]) (eLL := fun _ (_ : Unit) => []) (fun _ => rfl) (fun ⟨sights', start', _⟩ =>
    wq_asg_ (er_is (er_call (ea_c (er_var rfl) (ea_c (er_var rfl) ea_n))) rfl) (fun due' =>
    wq_asg_ (er_is (er_call (ea_c (er_var rfl) (ea_c (er_var rfl) ea_n))) rfl) (fun answer' =>
    wq_ifx (et_is (et_t (er_is (er_neD (er_ix (er_var rfl) er_int) (er_dy er_str)) rfl)) rfl)
    (wo_is (wo_ret (er_is (er_eqD (er_dy (er_var rfl)) (er_dy (er_var rfl))) rfl)) rfl)
    (wq_ifx (et_is (et_orR (et_is (et_t (er_is (er_neD (er_ix (er_var rfl) er_int) (er_dy er_str)) rfl)) rfl) (et_is (et_n (et_b (er_is (er_isC gm.Book_i (er_ix (er_var rfl) er_int)) rfl))) rfl)) rfl)
    (wo_is (wo_ret (er_is er_bl rfl)) rfl)
    (wq_asg_ (er_is (er_ix (er_var rfl) er_int) rfl) (fun book' =>
    wq_ifx (et_is (et_orR (et_is (et_n (et_b (er_is (er_call (ea_c (er_dy (er_fld (j := 0) (get := fun (b : Book) => b.f_worlds) gm.Book_fs (by decide +kernel) (fun _ => rfl) gm.Book_c gm.Book_a_worlds (er_cast (γ := Book) (er_var rfl)))) (ea_c (er_dy (er_lenD (er_ixD (er_ix (er_var rfl) er_int) er_int))) ea_n))) rfl))) rfl) (et_is (et_n (et_b (er_is (er_call (ea_c (er_dy (er_fld (j := 1) (get := fun (b : Book) => b.f_people) gm.Book_fs (by decide +kernel) (fun _ => rfl) gm.Book_c gm.Book_a_people (er_cast (γ := Book) (er_var rfl)))) (ea_c (er_dy (er_lenD (er_ix (er_var rfl) er_int))) ea_n))) rfl))) rfl)) rfl)
    (wo_is (wo_ret (er_is er_bl rfl)) rfl)
    (wo_is (wo_ret (er_is (er_andR (er_is (er_call (ea_c (er_dy (er_fz (ec_methR (α := Book) gm.Book_fs (by decide +kernel) (er_cast (γ := Book) (er_var rfl)) ea_n))) (ea_c (er_ix (er_var rfl) er_int) ea_n))) rfl) (er_is (er_call (ea_c (er_dy (er_fz (ec_methR (α := Book) gm.Book_fs (by decide +kernel) (er_cast (γ := Book) (er_var rfl)) ea_n))) (ea_c (er_ix (er_var rfl) er_int) ea_n))) rfl)) rfl)) rfl))))))) (fun t => e_law_agrees t.1 t.2.1) (.inl rfl)⟩)

theorem ok_law {f : Addr} {fd : FuncData} (F : Fun K "law" "law" s_law f fd) (gm : Gm K mg)  (G_law_sights : FnG P w K mg base CX0 2 "_law_sights" ["script"] (spD K (fnP (τ := Scr × Unit) (kCl (γ := (List (List Int)))) fun t => m_law_sights t.1))) (G_law_counts : FnG P w K mg base CX0 2 "_law_counts" ["script", "sights"] (spD K (fnP (τ := Scr × (List (List Int)) × Unit) (kCl (γ := (List Int))) fun t => m_law_counts t.1 t.2.1))) (G_law_ratio : FnG P w K mg base CX0 2 "_law_ratio" ["n", "d"] (spD K (fnP (τ := Int × Int × Unit) (kIm (γ := (Int × Int))) fun t => m_law_ratio t.1 t.2.1))) (G_law_agrees : FnG P w K mg base CX0 9 "_law_agrees" ["sights", "start"] (spD K (fnP (τ := (List (List Int)) × (List (Int × Int)) × Unit) (kIm (γ := Bool)) fun t => m_law_agrees t.1 t.2.1))) (G_law_spoil_start : FnG P w K mg base CX0 3 "_law_spoil_start" ["start", "drawn"] (spM K (fnM (α := (Int × Int)) (τ := (List Int) × Unit) fun t => m_law_spoil_start t.1 t.2.1))) (G_law_draws : FnG P w K mg base CX0 1 "_law_draws" ["cell", "sizes"] (spD K (fnP (τ := Int × (List Int) × Unit) (kCl (γ := (List Int))) fun t => m_law_draws t.1 t.2.1))) (G_law_cell : FnG P w K mg base CX0 1 "_law_cell" ["script", "k"] (spD K (fnP (τ := Scr × Int × Unit) (kIm (γ := Int)) fun t => m_law_cell t.1 t.2.1))) (G_law_spoil_sights : FnG P w K mg base CX0 1 "_law_spoil_sights" ["sights", "drawn"] (spM K (fnM (α := List Int) (τ := (List Int) × Unit) fun t => m_law_spoil_sights t.1 t.2.1))) (plain : ∀ ns, m_law ⟨ns⟩ = .ok true) : FnOk P w K mg base CX0 10 f fd ["script"] (spD K P_law) := by
  refine okD F sc_law (fun ds R Z ⟨ns, e, _⟩ => by rw [e] <;> rfl) (fun f cdv A outer s H E hr => ⟨_,
    (pss_cons (sv 1 sc_law.nd (pe_g G_law_sights hr.le pass0 (pa_cons (pv 0) pa_nil))) (pss_cons (sv 2 sc_law.nd (pe_g G_law_counts hr.le pass0 (pa_cons (pv 0) (pa_cons (pv 1) pa_nil)))) (pss_cons (ps_setLc (i := 3) (own := [("n", 4)]) rfl sc_law.nd rfl rfl (sw_true rfl rfl rfl (by decide +kernel)) (pl K (pv 2)) (blkOk_by (N := N_law) (sc := defScope s_law) (by decide +kernel)) (fun _ _ _ _ _ => (gn 4 sc_law.nd)) (fun _ _ _ _ _ => pts_nil) (fun _ _ _ _ _ => (pe_g G_law_ratio hr.le pass0 (pa_cons (pv 4) (pa_cons (cb (kSum K rfl) gm.sum (pa_cons (pv 2) pa_nil)) pa_nil))))) (pss_cons (ps_if (pt_not (pt_val (pe_g G_law_agrees hr.le pass0 (pa_cons (pv 1) (pa_cons (pv 3) pa_nil))))) (pss_one (ps_ret pe_bl)) pss_nil) (pss_cons (sv 5 sc_law.nd (ct (kList K) gm.list (pa_cons (pv 3) pa_nil))) (pss_cons (ps_expr (pe_g G_law_spoil_start hr.le pass0 (pa_cons (pv 5) (pa_cons (pe_g G_law_draws hr.le pass0 (pa_cons (pe_g G_law_cell hr.le pass0 (pa_cons (pv 0) (pa_cons pe_int pa_nil))) (pa_cons (pe_lst (pa_cons pe_int (pa_cons pe_int (pa_cons pe_int (pa_cons pe_int pa_nil))))) pa_nil))) pa_nil)))) (pss_cons (ps_if (pt_not (pt_val (pe_g G_law_agrees hr.le pass0 (pa_cons (pv 1) (pa_cons (pv 5) pa_nil))))) (pss_one (ps_ret pe_bl)) pss_nil) (pss_cons (sv 6 sc_law.nd (pe_g G_law_draws hr.le pass0 (pa_cons (pe_g G_law_cell hr.le pass0 (pa_cons (pv 0) (pa_cons pe_int pa_nil))) (pa_cons (pe_lst (pa_cons pe_int (pa_cons pe_int (pa_cons pe_int (pa_cons pe_int (pa_cons pe_int pa_nil)))))) pa_nil)))) (pss_cons (ps_expr (pe_g G_law_spoil_sights hr.le pass0 (pa_cons (pv 1) (pa_cons (pv 6) pa_nil)))) (pss_one (ps_ret (pe_g G_law_agrees hr.le pass0 (pa_cons (pv 1) (pa_cons (ix K (pe_lst (pa_cons (pv 3) (pa_cons (pv 5) pa_nil))) (ix K (pv 6) pe_int)) pa_nil)))))))))))))),
    fun ds R Z h => fn_w (N := N_law) (fun t => [.im (en t.1), .no, .no, .no, .no, .no, .no]) (b := fun t => m_law_b t.1) (r0 := .no) (eS := fun _ (_ : Unit) => [.no, .no, .no, .no, .no, .no, .no]) (eLL := fun _ (_ : Unit) => []) (fun _ => rfl) (fun ⟨script', _⟩ =>
    wq_asgC_ (ec_isR (ec_callR (ea_c (er_var rfl) ea_n)) rfl) (Nat.le_of_ble_eq_true rfl) (fun sights' =>
    wq_asg_ (er_is (er_fz (ec_lentR (.im (.cl (.no (.no (.no (.no (.no .nil))))))) (ec_callR (ea_c (er_var rfl) (ea_c (er_var rfl) ea_n))))) rfl) (fun counts' =>
    wq_asg_ (er_is (er_fzO (eo_lcR (as := fun (p : Int) => [(4, en p)]) (vs := [4]) (f := fun (n' : Int) => (m_law_ratio n' counts'.sum).calm) (sw_d (sr_l (er_var rfl))) tg_n (wp1 rfl) (fun _ _ h => h) (fun n' => (er_is (er_call (ea_c (er_var rfl) (ea_c (er_sum (er_var rfl)) ea_n))) rfl)))) rfl) (fun start' =>
    wq_ifx (et_is (et_lentR (.im (.cl (.im (.im (.no (.no (.no .nil))))))) (et_n (et_b (er_is (er_call (ea_c (er_var rfl) (ea_c (er_var rfl) ea_n))) rfl)))) rfl)
    (wo_is (wo_ret (er_is er_bl rfl)) rfl)
    (wq_asgC_ (ec_isR (ec_owR (eo_list (er_var rfl))) rfl) (Nat.le_of_ble_eq_true rfl) (fun spoilt' =>
    wq_callMQ (i := 5) (l := spoilt') rfl (ea_c (er_is (er_fz (ec_callR (ea_c (er_call (ea_c (er_var rfl) (ea_c er_int ea_n))) (ea_c (er_fzO (eo_lst (el_c er_int (el_c er_int (el_c er_int (el_c er_int el_n)))))) ea_n)))) rfl) ea_n) rfl (fun spoilt' =>
    wo_fzC (i := 5) rfl <| wq_ifx (et_is (et_lentR (.im (.cl (.im (.im (.no (.im (.no .nil))))))) (et_n (et_b (er_is (er_call (ea_c (er_var rfl) (ea_c (er_var rfl) ea_n))) rfl)))) rfl)
    (wo_is (wo_ret (er_is er_bl rfl)) rfl)
    (wq_asg_ (er_is (er_fz (ec_callR (ea_c (er_call (ea_c (er_var rfl) (ea_c er_int ea_n))) (ea_c (er_fzO (eo_lst (el_c er_int (el_c er_int (el_c er_int (el_c er_int (el_c er_int el_n))))))) ea_n)))) rfl) (fun drawn' =>
    wq_callMQ (i := 1) (l := sights') rfl (ea_c (er_is (er_var rfl) rfl) ea_n) rfl (fun sights' =>
    wo_fzC (i := 1) rfl <| wo_is (wo_ret (er_is (er_call (ea_c (er_var rfl) (ea_c (er_ix (er_fzO (eo_lst (el_c (er_var rfl) (el_c (er_var rfl) el_n)))) (er_ix (er_var rfl) er_int)) ea_n))) rfl)) rfl)))))))))) (fun t => e_law t.1) (.inl rfl) ds R Z (law_im plain h)⟩)
end
end FS
set_option Elab.async false
set_option linter.all false
set_option maxRecDepth 100000
set_option maxHeartbeats 4000000
set_option exponentiation.threshold 20000
namespace FS
open PySem PySem.Spec PyProof.Rows L2
abbrev s_BadOdds_init : Stmt := inClass (topS 6) 0
theorem sc_BadOdds_init : FnScope ["self", "person", "world"] ["self", "person", "world"] (defScope s_BadOdds_init) := ⟨rfl, rfl, rfl, by decide +kernel, rfl, by decide +kernel, by decide +kernel⟩
theorem all_mk {l : PySem.W.OpenLaw} {w : World} {K : PySem.W.Frag} {h : Heap} {mg : Str → Option Value} {fa f0 f1 f2 f3 f4 f5 f6 f7 f8 f9 f10 f11 f12 f13 f14 f15 f16 f17 f18 f19 f20 f21 f22 f23 f24 f25 f26 f27 f28 f29 f30 f31 C_Book C_Fault C_BadBook C_BadOdds C_BadNumber C_BadRow C_BadOrder C_BadText : Addr} (X : K.In h) (G : h.Ns mainGlobals mg) (hfa : mg "law" = some (.ref fa))
    {od0 od1 od2 od3 od4 od5 od6 od7 od8 od9 od10 od11 od12 od13 od14 od15 od16 od17 od18 od19 od20 od21 od22 od23 od24 od25 od26 od27 od28 od29 od30 od31 an0 an1 an2 an3 an4 an5 an6 an7 an8 an9 an10 an11 an12 an13 an14 an15 an16 an17 an18 an19 an20 an21 an22 an23 an24 an25 an26 an27 an28 an29 an30 an31 : Option Addr} {sl0 sl1 sl2 sl3 sl4 sl5 sl6 sl7 sl8 sl9 sl10 sl11 sl12 sl13 sl14 sl15 sl16 sl17 sl18 sl19 sl20 sl21 sl22 sl23 sl24 sl25 sl26 sl27 sl28 sl29 sl30 sl31 : Array (Option Value)} {oc0 oc1 oc2 oc3 oc4 oc5 oc6 oc7 oc8 oc9 oc10 oc11 oc12 oc13 oc14 oc15 oc16 oc17 oc18 oc19 oc20 oc21 oc22 oc23 oc24 oc25 oc26 oc27 oc28 oc29 oc30 oc31 kV0 kV1 kV2 kV3 kV4 kV5 kV6 kV7 kV8 kV9 kV10 kV11 kV12 kV13 kV14 kV15 kV16 kV17 kV18 kV19 kV20 kV21 kV22 kV23 kV24 kV25 kV26 kV27 kV28 kV29 kV30 kV31 dc0 dc1 dc2 dc3 dc4 dc5 dc6 dc7 dc8 dc9 dc10 dc11 dc12 dc13 dc14 dc15 dc16 dc17 dc18 dc19 dc20 dc21 dc22 dc23 dc24 dc25 dc26 dc27 dc28 dc29 dc30 dc31 pm0 pm1 pm2 pm3 pm4 pm5 pm6 pm7 pm8 pm9 pm10 pm11 pm12 pm13 pm14 pm15 pm16 pm17 pm18 pm19 pm20 pm21 pm22 pm23 pm24 pm25 pm26 pm27 pm28 pm29 pm30 pm31 cd0 cd1 cd2 cd3 cd4 cd5 cd6 cd7 cd8 cd9 cd10 cd11 cd12 cd13 cd14 cd15 cd16 cd17 cd18 cd19 cd20 cd21 cd22 cd23 cd24 cd25 cd26 cd27 cd28 cd29 cd30 cd31 ct0 ct1 ct2 ct3 ct4 ct5 ct6 ct7 ct8 ct9 ct10 ct11 ct12 ct13 ct14 ct15 ct16 ct17 ct18 ct19 ct20 ct21 ct22 ct23 ct24 ct25 ct26 ct27 ct28 ct29 ct30 ct31 : Value} {t23 t24 t25 : Tok} {pc24 : Addr} {rc24 : List Value} {nm_BadOdds qn_BadOdds : Str} {ns_BadOdds : Addr} {bs_BadOdds bm_BadOdds : List Value} {sn_BadOdds : List Str} {sub_BadOdds : List Value} {ab_BadOdds : Bool} {col_BadOdds : Option Bool} {dd_BadOdds : Option Addr} {k0_BadOdds k1_BadOdds k2_BadOdds k3_BadOdds k5_BadOdds : Option Value} {ta26 : Addr} {td26 : Option Addr} {tn26 : Nat} {tsl26 : Array (Option Value)} {tt26_0 tt26_1 : Tok}
    (a0 : PySem.W.findIn K (.ref C_BadOdds) "__init__" = some (some (.ref f0))) (i0 : PySem.W.typeIn K (.ref f0) = some (.type "function"))
    (l0 : K.lookup f0 = some ⟨oc0, od0, .func (PySem.W.fnOf "__init__" "BadOdds.__init__" (defArgs s_BadOdds_init) (defBody s_BadOdds_init) (defScope s_BadOdds_init) .none kV0 dc0 pm0 an0 cd0 ct0), sl0⟩) (c0 : PySem.W.codeIn K cd0 "BadOdds.__init__" = true) (k0 : PySem.W.keepIn K (.ref f0) = true)
    (a1 : PySem.W.nsIn K mainGlobals "_law_draws" = some (some (.ref f1)))
    (l1 : K.lookup f1 = some ⟨oc1, od1, .func (PySem.W.fnOf "_law_draws" "_law_draws" (defArgs s_law_draws) (defBody s_law_draws) (defScope s_law_draws) .none kV1 dc1 pm1 an1 cd1 ct1), sl1⟩) (c1 : PySem.W.codeIn K cd1 "_law_draws" = true) (k1 : PySem.W.keepIn K (.ref f1) = true)
    (a2 : PySem.W.nsIn K mainGlobals "_law_cell" = some (some (.ref f2)))
    (l2 : K.lookup f2 = some ⟨oc2, od2, .func (PySem.W.fnOf "_law_cell" "_law_cell" (defArgs s_law_cell) (defBody s_law_cell) (defScope s_law_cell) .none kV2 dc2 pm2 an2 cd2 ct2), sl2⟩) (c2 : PySem.W.codeIn K cd2 "_law_cell" = true) (k2 : PySem.W.keepIn K (.ref f2) = true)
    (a3 : PySem.W.nsIn K mainGlobals "_law_sights" = some (some (.ref f3)))
    (l3 : K.lookup f3 = some ⟨oc3, od3, .func (PySem.W.fnOf "_law_sights" "_law_sights" (defArgs s_law_sights) (defBody s_law_sights) (defScope s_law_sights) .none kV3 dc3 pm3 an3 cd3 ct3), sl3⟩) (c3 : PySem.W.codeIn K cd3 "_law_sights" = true) (k3 : PySem.W.keepIn K (.ref f3) = true)
    (a4 : PySem.W.nsIn K mainGlobals "_law_counts" = some (some (.ref f4)))
    (l4 : K.lookup f4 = some ⟨oc4, od4, .func (PySem.W.fnOf "_law_counts" "_law_counts" (defArgs s_law_counts) (defBody s_law_counts) (defScope s_law_counts) .none kV4 dc4 pm4 an4 cd4 ct4), sl4⟩) (c4 : PySem.W.codeIn K cd4 "_law_counts" = true) (k4 : PySem.W.keepIn K (.ref f4) = true)
    (a5 : PySem.W.nsIn K mainGlobals "_law_gcd" = some (some (.ref f5)))
    (l5 : K.lookup f5 = some ⟨oc5, od5, .func (PySem.W.fnOf "_law_gcd" "_law_gcd" (defArgs s_law_gcd) (defBody s_law_gcd) (defScope s_law_gcd) .none kV5 dc5 pm5 an5 cd5 ct5), sl5⟩) (c5 : PySem.W.codeIn K cd5 "_law_gcd" = true) (k5 : PySem.W.keepIn K (.ref f5) = true)
    (a6 : PySem.W.nsIn K mainGlobals "_law_ratio" = some (some (.ref f6)))
    (l6 : K.lookup f6 = some ⟨oc6, od6, .func (PySem.W.fnOf "_law_ratio" "_law_ratio" (defArgs s_law_ratio) (defBody s_law_ratio) (defScope s_law_ratio) .none kV6 dc6 pm6 an6 cd6 ct6), sl6⟩) (c6 : PySem.W.codeIn K cd6 "_law_ratio" = true) (k6 : PySem.W.keepIn K (.ref f6) = true)
    (a7 : PySem.W.nsIn K mainGlobals "_law_spoil_start" = some (some (.ref f7)))
    (l7 : K.lookup f7 = some ⟨oc7, od7, .func (PySem.W.fnOf "_law_spoil_start" "_law_spoil_start" (defArgs s_law_spoil_start) (defBody s_law_spoil_start) (defScope s_law_spoil_start) .none kV7 dc7 pm7 an7 cd7 ct7), sl7⟩) (c7 : PySem.W.codeIn K cd7 "_law_spoil_start" = true) (k7 : PySem.W.keepIn K (.ref f7) = true)
    (a8 : PySem.W.nsIn K mainGlobals "_law_spoil_sights" = some (some (.ref f8)))
    (l8 : K.lookup f8 = some ⟨oc8, od8, .func (PySem.W.fnOf "_law_spoil_sights" "_law_spoil_sights" (defArgs s_law_spoil_sights) (defBody s_law_spoil_sights) (defScope s_law_spoil_sights) .none kV8 dc8 pm8 an8 cd8 ct8), sl8⟩) (c8 : PySem.W.codeIn K cd8 "_law_spoil_sights" = true) (k8 : PySem.W.keepIn K (.ref f8) = true)
    (a9 : PySem.W.nsIn K mainGlobals "_law_fits" = some (some (.ref f9)))
    (l9 : K.lookup f9 = some ⟨oc9, od9, .func (PySem.W.fnOf "_law_fits" "_law_fits" (defArgs s_law_fits) (defBody s_law_fits) (defScope s_law_fits) .none kV9 dc9 pm9 an9 cd9 ct9), sl9⟩) (c9 : PySem.W.codeIn K cd9 "_law_fits" = true) (k9 : PySem.W.keepIn K (.ref f9) = true)
    (a10 : PySem.W.nsIn K mainGlobals "_law_numbered" = some (some (.ref f10)))
    (l10 : K.lookup f10 = some ⟨oc10, od10, .func (PySem.W.fnOf "_law_numbered" "_law_numbered" (defArgs s_law_numbered) (defBody s_law_numbered) (defScope s_law_numbered) .none kV10 dc10 pm10 an10 cd10 ct10), sl10⟩) (c10 : PySem.W.codeIn K cd10 "_law_numbered" = true) (k10 : PySem.W.keepIn K (.ref f10) = true)
    (a11 : PySem.W.nsIn K mainGlobals "_law_lowest" = some (some (.ref f11)))
    (l11 : K.lookup f11 = some ⟨oc11, od11, .func (PySem.W.fnOf "_law_lowest" "_law_lowest" (defArgs s_law_lowest) (defBody s_law_lowest) (defScope s_law_lowest) .none kV11 dc11 pm11 an11 cd11 ct11), sl11⟩) (c11 : PySem.W.codeIn K cd11 "_law_lowest" = true) (k11 : PySem.W.keepIn K (.ref f11) = true)
    (a12 : PySem.W.nsIn K mainGlobals "_law_cells" = some (some (.ref f12)))
    (l12 : K.lookup f12 = some ⟨oc12, od12, .func (PySem.W.fnOf "_law_cells" "_law_cells" (defArgs s_law_cells) (defBody s_law_cells) (defScope s_law_cells) .none kV12 dc12 pm12 an12 cd12 ct12), sl12⟩) (c12 : PySem.W.codeIn K cd12 "_law_cells" = true) (k12 : PySem.W.keepIn K (.ref f12) = true)
    (a13 : PySem.W.nsIn K mainGlobals "_law_due" = some (some (.ref f13)))
    (l13 : K.lookup f13 = some ⟨oc13, od13, .func (PySem.W.fnOf "_law_due" "_law_due" (defArgs s_law_due) (defBody s_law_due) (defScope s_law_due) .none kV13 dc13 pm13 an13 cd13 ct13), sl13⟩) (c13 : PySem.W.codeIn K cd13 "_law_due" = true) (k13 : PySem.W.keepIn K (.ref f13) = true)
    (a14 : PySem.W.nsIn K mainGlobals "check_sights" = some (some (.ref f14)))
    (l14 : K.lookup f14 = some ⟨oc14, od14, .func (PySem.W.fnOf "check_sights" "check_sights" (defArgs s_check_sights) (defBody s_check_sights) (defScope s_check_sights) .none kV14 dc14 pm14 an14 cd14 ct14), sl14⟩) (c14 : PySem.W.codeIn K cd14 "check_sights" = true) (k14 : PySem.W.keepIn K (.ref f14) = true)
    (a15 : PySem.W.nsIn K mainGlobals "check_odds" = some (some (.ref f15)))
    (l15 : K.lookup f15 = some ⟨oc15, od15, .func (PySem.W.fnOf "check_odds" "check_odds" (defArgs s_check_odds) (defBody s_check_odds) (defScope s_check_odds) .none kV15 dc15 pm15 an15 cd15 ct15), sl15⟩) (c15 : PySem.W.codeIn K cd15 "check_odds" = true) (k15 : PySem.W.keepIn K (.ref f15) = true)
    (a16 : PySem.W.nsIn K mainGlobals "numbered" = some (some (.ref f16)))
    (l16 : K.lookup f16 = some ⟨oc16, od16, .func (PySem.W.fnOf "numbered" "numbered" (defArgs s_numbered) (defBody s_numbered) (defScope s_numbered) .none kV16 dc16 pm16 an16 cd16 ct16), sl16⟩) (c16 : PySem.W.codeIn K cd16 "numbered" = true) (k16 : PySem.W.keepIn K (.ref f16) = true)
    (a17 : PySem.W.nsIn K mainGlobals "gathered" = some (some (.ref f17)))
    (l17 : K.lookup f17 = some ⟨oc17, od17, .func (PySem.W.fnOf "gathered" "gathered" (defArgs s_gathered) (defBody s_gathered) (defScope s_gathered) .none kV17 dc17 pm17 an17 cd17 ct17), sl17⟩) (c17 : PySem.W.codeIn K cd17 "gathered" = true) (k17 : PySem.W.keepIn K (.ref f17) = true)
    (a18 : PySem.W.nsIn K mainGlobals "lowest" = some (some (.ref f18)))
    (l18 : K.lookup f18 = some ⟨oc18, od18, .func (PySem.W.fnOf "lowest" "lowest" (defArgs s_lowest) (defBody s_lowest) (defScope s_lowest) .none kV18 dc18 pm18 an18 cd18 ct18), sl18⟩) (c18 : PySem.W.codeIn K cd18 "lowest" = true) (k18 : PySem.W.keepIn K (.ref f18) = true)
    (a19 : PySem.W.findIn K (.ref C_Book) "__init__" = some (some (.ref f19))) (i19 : PySem.W.isFn K (.ref f19) = true)
    (l19 : K.lookup f19 = some ⟨oc19, od19, .func (PySem.W.fnOf "__init__" "Book.__init__" (defArgs s_Book_init) (defBody s_Book_init) (defScope s_Book_init) .none kV19 dc19 pm19 an19 cd19 ct19), sl19⟩) (c19 : PySem.W.codeIn K cd19 "Book.__init__" = true) (k19 : PySem.W.keepIn K (.ref f19) = true)
    (a20 : PySem.W.nsIn K mainGlobals "whole" = some (some (.ref f20)))
    (l20 : K.lookup f20 = some ⟨oc20, od20, .func (PySem.W.fnOf "whole" "whole" (defArgs s_whole) (defBody s_whole) (defScope s_whole) .none kV20 dc20 pm20 an20 cd20 ct20), sl20⟩) (c20 : PySem.W.codeIn K cd20 "whole" = true) (k20 : PySem.W.keepIn K (.ref f20) = true)
    (a21 : PySem.W.nsIn K mainGlobals "ratio" = some (some (.ref f21)))
    (l21 : K.lookup f21 = some ⟨oc21, od21, .func (PySem.W.fnOf "ratio" "ratio" (defArgs s_ratio) (defBody s_ratio) (defScope s_ratio) .none kV21 dc21 pm21 an21 cd21 ct21), sl21⟩) (c21 : PySem.W.codeIn K cd21 "ratio" = true) (k21 : PySem.W.keepIn K (.ref f21) = true)
    (a22 : PySem.W.nsIn K mainGlobals "plus" = some (some (.ref f22)))
    (l22 : K.lookup f22 = some ⟨oc22, od22, .func (PySem.W.fnOf "plus" "plus" (defArgs s_plus) (defBody s_plus) (defScope s_plus) .none kV22 dc22 pm22 an22 cd22 ct22), sl22⟩) (c22 : PySem.W.codeIn K cd22 "plus" = true) (k22 : PySem.W.keepIn K (.ref f22) = true)
    (a23 : PySem.W.nsIn K mainGlobals "is_shares" = some (some (.ref f23)))
    (l23 : K.lookup f23 = some ⟨oc23, od23, .func (PySem.W.fnOf "is_shares" "is_shares" (defArgs s_is_shares) (defBody s_is_shares) (defScope s_is_shares) .none kV23 dc23 pm23 an23 cd23 ct23), sl23⟩) (c23 : PySem.W.codeIn K cd23 "is_shares" = true) (k23 : PySem.W.keepIn K (.ref f23) = true)
    (a24 : PySem.W.findCls K (.ref C_Book) (.type "type") "from_start" = some (.get (.builtin "classmethod.__get__") (.ref pc24) .none (.ref C_Book))) (i24 : PySem.W.recIn K pc24 "classmethod" = some (.ref f24 :: rc24)) (n24 : PySem.W.fnIn K f24 = true) (rd24 : PySem.W.readsIn K C_Book (.type "type") = true) (sg24 : PySem.W.specialIn K (.ref C_Book) "__getattribute__" = some (some (.builtin "type.__getattribute__")))
    (l24 : K.lookup f24 = some ⟨oc24, od24, .func (PySem.W.fnOf "from_start" "Book.from_start" (defArgs s_Book_from_start) (defBody s_Book_from_start) (defScope s_Book_from_start) .none kV24 dc24 pm24 an24 cd24 ct24), sl24⟩) (c24 : PySem.W.codeIn K cd24 "Book.from_start" = true) (k24 : PySem.W.keepIn K (.ref f24) = true)
    (a25 : PySem.W.nsIn K mainGlobals "_law_plain" = some (some (.ref f25)))
    (l25 : K.lookup f25 = some ⟨oc25, od25, .func (PySem.W.fnOf "_law_plain" "_law_plain" (defArgs s_law_plain) (defBody s_law_plain) (defScope s_law_plain) .none kV25 dc25 pm25 an25 cd25 ct25), sl25⟩) (c25 : PySem.W.codeIn K cd25 "_law_plain" = true) (k25 : PySem.W.keepIn K (.ref f25) = true)
    (a26 : PySem.W.nsIn K mainGlobals "_law_ask" = some (some (.ref f26)))
    (l26 : K.lookup f26 = some ⟨oc26, od26, .func (PySem.W.fnOf "_law_ask" "_law_ask" (defArgs s_law_ask) (defBody s_law_ask) (defScope s_law_ask) .none kV26 dc26 pm26 an26 cd26 ct26), sl26⟩) (c26 : PySem.W.codeIn K cd26 "_law_ask" = true) (k26 : PySem.W.keepIn K (.ref f26) = true)
    (a27 : PySem.W.nsIn K mainGlobals "_law_same" = some (some (.ref f27)))
    (l27 : K.lookup f27 = some ⟨oc27, od27, .func (PySem.W.fnOf "_law_same" "_law_same" (defArgs s_law_same) (defBody s_law_same) (defScope s_law_same) .none kV27 dc27 pm27 an27 cd27 ct27), sl27⟩) (c27 : PySem.W.codeIn K cd27 "_law_same" = true) (k27 : PySem.W.keepIn K (.ref f27) = true)
    (a28 : PySem.W.findIn K (.ref C_Book) "sights" = some (some (.ref f28))) (i28 : PySem.W.isFn K (.ref f28) = true)
    (l28 : K.lookup f28 = some ⟨oc28, od28, .func (PySem.W.fnOf "sights" "Book.sights" (defArgs s_Book_sights) (defBody s_Book_sights) (defScope s_Book_sights) .none kV28 dc28 pm28 an28 cd28 ct28), sl28⟩) (c28 : PySem.W.codeIn K cd28 "Book.sights" = true) (k28 : PySem.W.keepIn K (.ref f28) = true)
    (a29 : PySem.W.findIn K (.ref C_Book) "odds" = some (some (.ref f29))) (i29 : PySem.W.isFn K (.ref f29) = true)
    (l29 : K.lookup f29 = some ⟨oc29, od29, .func (PySem.W.fnOf "odds" "Book.odds" (defArgs s_Book_odds) (defBody s_Book_odds) (defScope s_Book_odds) .none kV29 dc29 pm29 an29 cd29 ct29), sl29⟩) (c29 : PySem.W.codeIn K cd29 "Book.odds" = true) (k29 : PySem.W.keepIn K (.ref f29) = true)
    (a30 : PySem.W.nsIn K mainGlobals "_law_agrees" = some (some (.ref f30)))
    (l30 : K.lookup f30 = some ⟨oc30, od30, .func (PySem.W.fnOf "_law_agrees" "_law_agrees" (defArgs s_law_agrees) (defBody s_law_agrees) (defScope s_law_agrees) .none kV30 dc30 pm30 an30 cd30 ct30), sl30⟩) (c30 : PySem.W.codeIn K cd30 "_law_agrees" = true) (k30 : PySem.W.keepIn K (.ref f30) = true)
    (a31 : PySem.W.nsIn K mainGlobals "law" = some (some (.ref f31)))
    (l31 : K.lookup f31 = some ⟨oc31, od31, .func (PySem.W.fnOf "law" "law" (defArgs s_law) (defBody s_law) (defScope s_law) .none kV31 dc31 pm31 an31 cd31 ct31), sl31⟩) (c31 : PySem.W.codeIn K cd31 "law" = true) (k31 : PySem.W.keepIn K (.ref f31) = true)
    (g_Book : PySem.W.nsIn K mainGlobals "Book" = some (some (.ref C_Book))) (pg_Book : PySem.W.plainGet K C_Book Str.empty = true) (hd_Book : PySem.W.hasDictIn K C_Book = true) (po_Book : PySem.W.plainOver K C_Book = true) (sa_Book : PySem.W.findIn K (.ref C_Book) "__setattr__" = some (some (.builtin "object.__setattr__"))) (mk_Book : PySem.W.makesIn K C_Book = true) (kc_Book : PySem.W.keepIn K (.ref C_Book) = true)
    (ca_Book : PySem.W.findIn K (.ref C_Book) "__class__" = some (some (.builtin "object.__class__"))) (mo_Book : PySem.W.mroIn K C_Book (.type "object") = some true) (ty_Book : PySem.W.typeIn K (.ref C_Book) = some (.type "type"))
    (sn_Book_NoneType : PySem.W.subIn K (.type "NoneType") (.ref C_Book) = some false)
    (sn_Book_bool : PySem.W.subIn K (.type "bool") (.ref C_Book) = some false)
    (sn_Book_int : PySem.W.subIn K (.type "int") (.ref C_Book) = some false)
    (sn_Book_str : PySem.W.subIn K (.type "str") (.ref C_Book) = some false)
    (sn_Book_tuple : PySem.W.subIn K (.type "tuple") (.ref C_Book) = some false)
    (sn_Book_list : PySem.W.subIn K (.type "list") (.ref C_Book) = some false)
    (hn_ : PySem.W.specialIn K (.builtin "object.__class__") "__get__" = some (some (.builtin "getset_descriptor.__get__"))) (ht_ : PySem.W.takesIn K (.builtin "object.__class__") = some true)
    (g_Fault : PySem.W.nsIn K mainGlobals "Fault" = some (some (.ref C_Fault))) (ga_Fault : PySem.W.findIn K (.ref C_Fault) "__getattribute__" = some (some (.builtin "BaseException.__getattribute__"))) (gg_Fault : PySem.W.findIn K (.ref C_Fault) "__getattr__" = some none) (sb_Fault : PySem.W.subIn K (.ref C_Fault) (.type "BaseException") = some true) (hd_Fault : PySem.W.hasDictIn K C_Fault = true) (ca_Fault : PySem.W.findIn K (.ref C_Fault) "__class__" = some (some (.builtin "object.__class__"))) (mo_Fault : PySem.W.mroIn K C_Fault (.type "object") = some true) (ty_Fault : PySem.W.typeIn K (.ref C_Fault) = some (.type "type")) (kp_Fault : PySem.W.keepIn K (.ref C_Fault) = true)
    (rd_Fault : PySem.W.readsIn K C_Fault (.type "type") = true) (sg_Fault : PySem.W.specialIn K (.ref C_Fault) "__getattribute__" = some (some (.builtin "type.__getattribute__"))) (fc_Fault : PySem.W.findCls K (.ref C_Fault) (.type "type") "__init__" = some (.val (.builtin "ValueError.__init__")))
    (g_BadBook : PySem.W.nsIn K mainGlobals "BadBook" = some (some (.ref C_BadBook))) (ga_BadBook : PySem.W.findIn K (.ref C_BadBook) "__getattribute__" = some (some (.builtin "BaseException.__getattribute__"))) (gg_BadBook : PySem.W.findIn K (.ref C_BadBook) "__getattr__" = some none) (sb_BadBook : PySem.W.subIn K (.ref C_BadBook) (.type "BaseException") = some true) (hd_BadBook : PySem.W.hasDictIn K C_BadBook = true) (ca_BadBook : PySem.W.findIn K (.ref C_BadBook) "__class__" = some (some (.builtin "object.__class__"))) (mo_BadBook : PySem.W.mroIn K C_BadBook (.type "object") = some true) (ty_BadBook : PySem.W.typeIn K (.ref C_BadBook) = some (.type "type")) (kp_BadBook : PySem.W.keepIn K (.ref C_BadBook) = true)
    (xi_BadBook : PySem.W.excIn K C_BadBook [.type "ValueError", .type "Exception", .type "BaseException", .type "object"] "ValueError.__new__" = true)
    (g_BadOdds : PySem.W.nsIn K mainGlobals "BadOdds" = some (some (.ref C_BadOdds))) (ga_BadOdds : PySem.W.findIn K (.ref C_BadOdds) "__getattribute__" = some (some (.builtin "BaseException.__getattribute__"))) (gg_BadOdds : PySem.W.findIn K (.ref C_BadOdds) "__getattr__" = some none) (sb_BadOdds : PySem.W.subIn K (.ref C_BadOdds) (.type "BaseException") = some true) (hd_BadOdds : PySem.W.hasDictIn K C_BadOdds = true) (ca_BadOdds : PySem.W.findIn K (.ref C_BadOdds) "__class__" = some (some (.builtin "object.__class__"))) (mo_BadOdds : PySem.W.mroIn K C_BadOdds (.type "object") = some true) (ty_BadOdds : PySem.W.typeIn K (.ref C_BadOdds) = some (.type "type")) (kp_BadOdds : PySem.W.keepIn K (.ref C_BadOdds) = true)
    (oc_BadOdds : K.lookup C_BadOdds = some (excClassObj nm_BadOdds qn_BadOdds C_BadOdds ns_BadOdds bs_BadOdds bm_BadOdds true sn_BadOdds sub_BadOdds ab_BadOdds col_BadOdds dd_BadOdds k0_BadOdds k1_BadOdds k2_BadOdds k3_BadOdds k5_BadOdds "ValueError.__new__")) (om_BadOdds : PySem.HandSPX.refsVE bm_BadOdds = true) (sa_BadOdds : PySem.W.findIn K (.ref C_BadOdds) "__setattr__" = some (some (.builtin "object.__setattr__")))
    (xq_BadOdds_person : PySem.W.findIn K (.ref C_BadOdds) "person" = some none)
    (xq_BadOdds_world : PySem.W.findIn K (.ref C_BadOdds) "world" = some none)
    (g_BadNumber : PySem.W.nsIn K mainGlobals "BadNumber" = some (some (.ref C_BadNumber))) (ga_BadNumber : PySem.W.findIn K (.ref C_BadNumber) "__getattribute__" = some (some (.builtin "BaseException.__getattribute__"))) (gg_BadNumber : PySem.W.findIn K (.ref C_BadNumber) "__getattr__" = some none) (sb_BadNumber : PySem.W.subIn K (.ref C_BadNumber) (.type "BaseException") = some true) (hd_BadNumber : PySem.W.hasDictIn K C_BadNumber = true) (ca_BadNumber : PySem.W.findIn K (.ref C_BadNumber) "__class__" = some (some (.builtin "object.__class__"))) (mo_BadNumber : PySem.W.mroIn K C_BadNumber (.type "object") = some true) (ty_BadNumber : PySem.W.typeIn K (.ref C_BadNumber) = some (.type "type")) (kp_BadNumber : PySem.W.keepIn K (.ref C_BadNumber) = true)
    (xi_BadNumber : PySem.W.excIn K C_BadNumber [.type "ValueError", .type "Exception", .type "BaseException", .type "object"] "ValueError.__new__" = true)
    (g_BadRow : PySem.W.nsIn K mainGlobals "BadRow" = some (some (.ref C_BadRow))) (ga_BadRow : PySem.W.findIn K (.ref C_BadRow) "__getattribute__" = some (some (.builtin "BaseException.__getattribute__"))) (gg_BadRow : PySem.W.findIn K (.ref C_BadRow) "__getattr__" = some none) (sb_BadRow : PySem.W.subIn K (.ref C_BadRow) (.type "BaseException") = some true) (hd_BadRow : PySem.W.hasDictIn K C_BadRow = true) (ca_BadRow : PySem.W.findIn K (.ref C_BadRow) "__class__" = some (some (.builtin "object.__class__"))) (mo_BadRow : PySem.W.mroIn K C_BadRow (.type "object") = some true) (ty_BadRow : PySem.W.typeIn K (.ref C_BadRow) = some (.type "type")) (kp_BadRow : PySem.W.keepIn K (.ref C_BadRow) = true)
    (xi_BadRow : PySem.W.excIn K C_BadRow [.type "ValueError", .type "Exception", .type "BaseException", .type "object"] "ValueError.__new__" = true)
    (g_BadOrder : PySem.W.nsIn K mainGlobals "BadOrder" = some (some (.ref C_BadOrder))) (ga_BadOrder : PySem.W.findIn K (.ref C_BadOrder) "__getattribute__" = some (some (.builtin "BaseException.__getattribute__"))) (gg_BadOrder : PySem.W.findIn K (.ref C_BadOrder) "__getattr__" = some none) (sb_BadOrder : PySem.W.subIn K (.ref C_BadOrder) (.type "BaseException") = some true) (hd_BadOrder : PySem.W.hasDictIn K C_BadOrder = true) (ca_BadOrder : PySem.W.findIn K (.ref C_BadOrder) "__class__" = some (some (.builtin "object.__class__"))) (mo_BadOrder : PySem.W.mroIn K C_BadOrder (.type "object") = some true) (ty_BadOrder : PySem.W.typeIn K (.ref C_BadOrder) = some (.type "type")) (kp_BadOrder : PySem.W.keepIn K (.ref C_BadOrder) = true)
    (g_BadText : PySem.W.nsIn K mainGlobals "BadText" = some (some (.ref C_BadText))) (ga_BadText : PySem.W.findIn K (.ref C_BadText) "__getattribute__" = some (some (.builtin "BaseException.__getattribute__"))) (gg_BadText : PySem.W.findIn K (.ref C_BadText) "__getattr__" = some none) (sb_BadText : PySem.W.subIn K (.ref C_BadText) (.type "BaseException") = some true) (hd_BadText : PySem.W.hasDictIn K C_BadText = true) (ca_BadText : PySem.W.findIn K (.ref C_BadText) "__class__" = some (some (.builtin "object.__class__"))) (mo_BadText : PySem.W.mroIn K C_BadText (.type "object") = some true) (ty_BadText : PySem.W.typeIn K (.ref C_BadText) = some (.type "type")) (kp_BadText : PySem.W.keepIn K (.ref C_BadText) = true)
    (s_BadBook_BadBook : PySem.W.subIn K (.ref C_BadBook) (.ref C_BadBook) = some true)
    (s_BadBook_BadOdds : PySem.W.subIn K (.ref C_BadBook) (.ref C_BadOdds) = some false)
    (s_BadBook_BadOrder : PySem.W.subIn K (.ref C_BadBook) (.ref C_BadOrder) = some false)
    (s_BadBook_BadRow : PySem.W.subIn K (.ref C_BadBook) (.ref C_BadRow) = some false)
    (s_BadBook_BadText : PySem.W.subIn K (.ref C_BadBook) (.ref C_BadText) = some false)
    (s_BadBook_Fault : PySem.W.subIn K (.ref C_BadBook) (.ref C_Fault) = some true)
    (s_BadNumber_BadBook : PySem.W.subIn K (.ref C_BadNumber) (.ref C_BadBook) = some false)
    (s_BadNumber_BadNumber : PySem.W.subIn K (.ref C_BadNumber) (.ref C_BadNumber) = some true)
    (s_BadNumber_BadOdds : PySem.W.subIn K (.ref C_BadNumber) (.ref C_BadOdds) = some false)
    (s_BadNumber_BadOrder : PySem.W.subIn K (.ref C_BadNumber) (.ref C_BadOrder) = some false)
    (s_BadNumber_BadRow : PySem.W.subIn K (.ref C_BadNumber) (.ref C_BadRow) = some false)
    (s_BadNumber_BadText : PySem.W.subIn K (.ref C_BadNumber) (.ref C_BadText) = some false)
    (s_BadNumber_Fault : PySem.W.subIn K (.ref C_BadNumber) (.ref C_Fault) = some true)
    (s_BadOdds_BadBook : PySem.W.subIn K (.ref C_BadOdds) (.ref C_BadBook) = some false)
    (s_BadOdds_BadOdds : PySem.W.subIn K (.ref C_BadOdds) (.ref C_BadOdds) = some true)
    (s_BadOdds_BadOrder : PySem.W.subIn K (.ref C_BadOdds) (.ref C_BadOrder) = some false)
    (s_BadOdds_BadRow : PySem.W.subIn K (.ref C_BadOdds) (.ref C_BadRow) = some false)
    (s_BadOdds_BadText : PySem.W.subIn K (.ref C_BadOdds) (.ref C_BadText) = some false)
    (s_BadOdds_Fault : PySem.W.subIn K (.ref C_BadOdds) (.ref C_Fault) = some true)
    (s_BadRow_BadBook : PySem.W.subIn K (.ref C_BadRow) (.ref C_BadBook) = some false)
    (s_BadRow_BadOdds : PySem.W.subIn K (.ref C_BadRow) (.ref C_BadOdds) = some false)
    (s_BadRow_BadOrder : PySem.W.subIn K (.ref C_BadRow) (.ref C_BadOrder) = some false)
    (s_BadRow_BadRow : PySem.W.subIn K (.ref C_BadRow) (.ref C_BadRow) = some true)
    (s_BadRow_BadText : PySem.W.subIn K (.ref C_BadRow) (.ref C_BadText) = some false)
    (s_BadRow_Fault : PySem.W.subIn K (.ref C_BadRow) (.ref C_Fault) = some true)
    (z12 : PySem.W.findIn K (.ref C_Book) "_cells" = some none)
    (z13 : PySem.W.findIn K (.ref C_Book) "_labels" = some none)
    (z14 : PySem.W.findIn K (.ref C_Book) "_totals" = some none)
    (z15 : PySem.W.findIn K (.ref C_Book) "_weights" = some none)
    (z16 : PySem.W.findIn K (.ref C_Book) "people" = some none)
    (z17 : PySem.W.findIn K (.ref C_Book) "worlds" = some none)
    (z23 : PySem.W.nsIn K mainGlobals "MOST_PEOPLE" = some (some (.int 6 t23)))
    (z24 : PySem.W.nsIn K mainGlobals "MOST_WEIGHT" = some (some (.int 10000000000000000000000000000000000000000 t24)))
    (z25 : PySem.W.nsIn K mainGlobals "MOST_WORLDS" = some (some (.int 12 t25)))
    (z26 : PySem.W.nsIn K mainGlobals "ONE" = some (some (.ref ta26))) (zl26 : K.lookup ta26 = some ⟨.type "tuple", td26, .seq #[.int 1 tt26_0, .int 1 tt26_1] tn26, tsl26⟩)
    (z27 : PySem.W.nsIn K mainGlobals "abs" = some none)
    (z28 : PySem.W.nsIn K mainGlobals "bool" = some none)
    (z29 : PySem.W.nsIn K mainGlobals "gcd" = some (some (.builtin "math.gcd")))
    (z30 : PySem.W.nsIn K mainGlobals "int" = some none)
    (z31 : PySem.W.nsIn K mainGlobals "isinstance" = some none)
    (z32 : PySem.W.nsIn K mainGlobals "lcm" = some (some (.builtin "math.lcm")))
    (z33 : PySem.W.nsIn K mainGlobals "len" = some none)
    (z34 : PySem.W.nsIn K mainGlobals "list" = some none)
    (z35 : PySem.W.nsIn K mainGlobals "max" = some none)
    (z36 : PySem.W.nsIn K mainGlobals "min" = some none)
    (z37 : PySem.W.nsIn K mainGlobals "range" = some none)
    (z38 : PySem.W.nsIn K mainGlobals "sum" = some none)
    (z39 : PySem.W.nsIn K mainGlobals "tuple" = some none) :
    ∃ fd : FuncData, (∀ (s : Shared) (v : Value), BindsTo s fd ⟨[v], []⟩ [("script", v)]) ∧ ∀ base : Heap, K.In base → base.Ns mainGlobals mg → FnOk l.prog w K mg base CX0 10 fa fd ["script"] (spD K P_law) := by
  obtain ⟨cm, at_Book, fs_Book, at_Fault, fs_Fault, at_BadBook, fs_BadBook, at_BadOdds, fs_BadOdds, at_BadNumber, fs_BadNumber, at_BadRow, fs_BadRow, at_BadOrder, fs_BadOrder, at_BadText, fs_BadText⟩ : ∃ cm : Cm, cm.at_ "Book" = C_Book ∧ cm.fs "Book" = (["worlds", "people", "_labels", "_cells", "_weights", "_totals"] : List Str) ∧ cm.at_ "Fault" = C_Fault ∧ cm.fs "Fault" = ([] : List Str) ∧ cm.at_ "BadBook" = C_BadBook ∧ cm.fs "BadBook" = ([] : List Str) ∧ cm.at_ "BadOdds" = C_BadOdds ∧ cm.fs "BadOdds" = (["person", "world"] : List Str) ∧ cm.at_ "BadNumber" = C_BadNumber ∧ cm.fs "BadNumber" = ([] : List Str) ∧ cm.at_ "BadRow" = C_BadRow ∧ cm.fs "BadRow" = ([] : List Str) ∧ cm.at_ "BadOrder" = C_BadOrder ∧ cm.fs "BadOrder" = ([] : List Str) ∧ cm.at_ "BadText" = C_BadText ∧ cm.fs "BadText" = ([] : List Str) := ⟨⟨fun c => if c = "Book" then C_Book else if c = "Fault" then C_Fault else if c = "BadBook" then C_BadBook else if c = "BadOdds" then C_BadOdds else if c = "BadNumber" then C_BadNumber else if c = "BadRow" then C_BadRow else if c = "BadOrder" then C_BadOrder else if c = "BadText" then C_BadText else 0, fun c => if c = "Book" then (["worlds", "people", "_labels", "_cells", "_weights", "_totals"] : List Str) else if c = "Fault" then ([] : List Str) else if c = "BadBook" then ([] : List Str) else if c = "BadOdds" then (["person", "world"] : List Str) else if c = "BadNumber" then ([] : List Str) else if c = "BadRow" then ([] : List Str) else if c = "BadOrder" then ([] : List Str) else if c = "BadText" then ([] : List Str) else []⟩, by refine ⟨?_, ?_, ?_, ?_, ?_, ?_, ?_, ?_, ?_, ?_, ?_, ?_, ?_, ?_, ?_, ?_⟩ <;> rfl⟩
  subst at_Book
  subst at_Fault
  subst at_BadBook
  subst at_BadOdds
  subst at_BadNumber
  subst at_BadRow
  subst at_BadOrder
  subst at_BadText
  have up_ : UpC K mg "Fault" (cm.at_ "Fault") := ⟨PySem.W.mg_of X G g_Fault, rd_Fault, sg_Fault, fc_Fault⟩
  have gm : Gm K mg := {
    BadBook_f := fs_BadBook,
    BadBook_p := ⟨xi_BadBook, PySem.W.mg_of X G g_BadBook, kp_BadBook, sb_BadBook, ty_BadBook⟩,
    BadBook_v := PySem.W.mg_of X G g_BadBook,
    BadNumber_f := fs_BadNumber,
    BadNumber_p := ⟨xi_BadNumber, PySem.W.mg_of X G g_BadNumber, kp_BadNumber, sb_BadNumber, ty_BadNumber⟩,
    BadOdds_f := fs_BadOdds,
    BadOdds_v := PySem.W.mg_of X G g_BadOdds,
    BadOrder_v := PySem.W.mg_of X G g_BadOrder,
    BadRow_f := fs_BadRow,
    BadRow_p := ⟨xi_BadRow, PySem.W.mg_of X G g_BadRow, kp_BadRow, sb_BadRow, ty_BadRow⟩,
    BadRow_v := PySem.W.mg_of X G g_BadRow,
    BadText_v := PySem.W.mg_of X G g_BadText,
    Book_a__cells := z12,
    Book_a__labels := z13,
    Book_a__totals := z14,
    Book_a__weights := z15,
    Book_a_people := z16,
    Book_a_worlds := z17,
    Book_c := ⟨pg_Book, hd_Book, po_Book, sa_Book⟩,
    Book_fs := fs_Book,
    Book_i := ⟨⟨pg_Book, hd_Book, po_Book, sa_Book⟩, ca_Book, hn_, ht_, mo_Book, kit_S, fun y hy => by
      simp only [List.mem_cons, List.not_mem_nil, or_false] at hy
      rcases hy with rfl | rfl | rfl | rfl | rfl | rfl
      · exact kit_N sn_Book_NoneType hd_Book ty_Book
      · exact kit_N sn_Book_bool hd_Book ty_Book
      · exact kit_N sn_Book_int hd_Book ty_Book
      · exact kit_N sn_Book_str hd_Book ty_Book
      · exact kit_N sn_Book_tuple hd_Book ty_Book
      · exact kit_N sn_Book_list hd_Book ty_Book⟩,
    Book_v := PySem.W.mg_of X G g_Book,
    Fault_v := PySem.W.mg_of X G g_Fault,
    MOST_PEOPLE := ⟨_, PySem.W.mg_of X G z23⟩,
    MOST_WEIGHT := ⟨_, PySem.W.mg_of X G z24⟩,
    MOST_WORLDS := ⟨_, PySem.W.mg_of X G z25⟩,
    ONE := ⟨_, PySem.W.mg_of X G z26, fun H => .inr ⟨_, _, _, zl26, rfl, rfl, (show (2 : Nat) ≤ sizeLine by decide), (.cons ⟨_, rfl⟩ (.cons ⟨_, rfl⟩ .nil))⟩⟩,
    abs := PySem.W.mg_none_of X G z27,
    bool := PySem.W.mg_none_of X G z28,
    gcd := PySem.W.mg_of X G z29,
    int := PySem.W.mg_none_of X G z30,
    isinstance := PySem.W.mg_none_of X G z31,
    lcm := PySem.W.mg_of X G z32,
    len := PySem.W.mg_none_of X G z33,
    list := PySem.W.mg_none_of X G z34,
    max := PySem.W.mg_none_of X G z35,
    min := PySem.W.mg_none_of X G z36,
    range := PySem.W.mg_none_of X G z37,
    sum := PySem.W.mg_none_of X G z38,
    tuple := PySem.W.mg_none_of X G z39,
    xe := fun y hy => by
      simp only [ERRS, List.mem_cons, List.not_mem_nil, or_false] at hy
      rcases hy with rfl | rfl | rfl | rfl
      · exact ⟨ga_BadBook, gg_BadBook, sb_BadBook, hd_BadBook, ca_BadBook, hn_, ht_, mo_BadBook⟩
      · exact ⟨ga_BadOdds, gg_BadOdds, sb_BadOdds, hd_BadOdds, ca_BadOdds, hn_, ht_, mo_BadOdds⟩
      · exact ⟨ga_BadNumber, gg_BadNumber, sb_BadNumber, hd_BadNumber, ca_BadNumber, hn_, ht_, mo_BadNumber⟩
      · exact ⟨ga_BadRow, gg_BadRow, sb_BadRow, hd_BadRow, ca_BadRow, hn_, ht_, mo_BadRow⟩,
    xf_person := fun y j n hy => by
      simp only [XF_person, List.mem_cons, List.not_mem_nil, or_false, Prod.mk.injEq] at hy
      rcases hy with ⟨rfl, rfl, rfl⟩
      · exact ⟨⟨ga_BadOdds, gg_BadOdds, sb_BadOdds, hd_BadOdds, ca_BadOdds, hn_, ht_, mo_BadOdds⟩, xq_BadOdds_person, by rw [fs_BadOdds]; decide, by decide, by rw [fs_BadOdds]; decide⟩,
    xf_world := fun y j n hy => by
      simp only [XF_world, List.mem_cons, List.not_mem_nil, or_false, Prod.mk.injEq] at hy
      rcases hy with ⟨rfl, rfl, rfl⟩
      · exact ⟨⟨ga_BadOdds, gg_BadOdds, sb_BadOdds, hd_BadOdds, ca_BadOdds, hn_, ht_, mo_BadOdds⟩, xq_BadOdds_world, by rw [fs_BadOdds]; decide, by decide, by rw [fs_BadOdds]; decide⟩,
    xk_BadBook := fun y hy => by
      simp only [ERRS, List.mem_cons, List.not_mem_nil, or_false] at hy
      rcases hy with rfl | rfl | rfl | rfl
      · exact (kit_T s_BadBook_BadBook hd_BadBook ty_BadBook).trans (by decide)
      · exact (kit_F s_BadOdds_BadOdds s_BadOdds_BadBook hd_BadBook ty_BadBook).trans (by decide)
      · exact (kit_F s_BadNumber_BadNumber s_BadNumber_BadBook hd_BadBook ty_BadBook).trans (by decide)
      · exact (kit_F s_BadRow_BadRow s_BadRow_BadBook hd_BadBook ty_BadBook).trans (by decide),
    xk_BadOdds := fun y hy => by
      simp only [ERRS, List.mem_cons, List.not_mem_nil, or_false] at hy
      rcases hy with rfl | rfl | rfl | rfl
      · exact (kit_F s_BadBook_BadBook s_BadBook_BadOdds hd_BadOdds ty_BadOdds).trans (by decide)
      · exact (kit_T s_BadOdds_BadOdds hd_BadOdds ty_BadOdds).trans (by decide)
      · exact (kit_F s_BadNumber_BadNumber s_BadNumber_BadOdds hd_BadOdds ty_BadOdds).trans (by decide)
      · exact (kit_F s_BadRow_BadRow s_BadRow_BadOdds hd_BadOdds ty_BadOdds).trans (by decide),
    xk_BadOrder := fun y hy => by
      simp only [ERRS, List.mem_cons, List.not_mem_nil, or_false] at hy
      rcases hy with rfl | rfl | rfl | rfl
      · exact (kit_F s_BadBook_BadBook s_BadBook_BadOrder hd_BadOrder ty_BadOrder).trans (by decide)
      · exact (kit_F s_BadOdds_BadOdds s_BadOdds_BadOrder hd_BadOrder ty_BadOrder).trans (by decide)
      · exact (kit_F s_BadNumber_BadNumber s_BadNumber_BadOrder hd_BadOrder ty_BadOrder).trans (by decide)
      · exact (kit_F s_BadRow_BadRow s_BadRow_BadOrder hd_BadOrder ty_BadOrder).trans (by decide),
    xk_BadRow := fun y hy => by
      simp only [ERRS, List.mem_cons, List.not_mem_nil, or_false] at hy
      rcases hy with rfl | rfl | rfl | rfl
      · exact (kit_F s_BadBook_BadBook s_BadBook_BadRow hd_BadRow ty_BadRow).trans (by decide)
      · exact (kit_F s_BadOdds_BadOdds s_BadOdds_BadRow hd_BadRow ty_BadRow).trans (by decide)
      · exact (kit_F s_BadNumber_BadNumber s_BadNumber_BadRow hd_BadRow ty_BadRow).trans (by decide)
      · exact (kit_T s_BadRow_BadRow hd_BadRow ty_BadRow).trans (by decide),
    xk_BadText := fun y hy => by
      simp only [ERRS, List.mem_cons, List.not_mem_nil, or_false] at hy
      rcases hy with rfl | rfl | rfl | rfl
      · exact (kit_F s_BadBook_BadBook s_BadBook_BadText hd_BadText ty_BadText).trans (by decide)
      · exact (kit_F s_BadOdds_BadOdds s_BadOdds_BadText hd_BadText ty_BadText).trans (by decide)
      · exact (kit_F s_BadNumber_BadNumber s_BadNumber_BadText hd_BadText ty_BadText).trans (by decide)
      · exact (kit_F s_BadRow_BadRow s_BadRow_BadText hd_BadText ty_BadText).trans (by decide),
    xm := fun y hy => by
      simp only [ERRS, List.mem_cons, List.not_mem_nil, or_false] at hy
      rcases hy with rfl | rfl | rfl | rfl
      · exact PySem.W.exm_ref sb_Fault hd_Fault ty_Fault s_BadBook_Fault
      · exact PySem.W.exm_ref sb_Fault hd_Fault ty_Fault s_BadOdds_Fault
      · exact PySem.W.exm_ref sb_Fault hd_Fault ty_Fault s_BadNumber_Fault
      · exact PySem.W.exm_ref sb_Fault hd_Fault ty_Fault s_BadRow_Fault }
  have D0 : Dx K mg "BadOdds" (cm.at_ "BadOdds") "BadOdds.__init__" s_BadOdds_init ["self", "person", "world"] := ⟨⟨f0, _, fun_mk l0 c0 k0, a0, i0, (fun_mk l0 c0 k0).binds fun _ _ _ _ _ _ us hl => match us, hl with | [_, _, _], _ => rfl⟩, PySem.W.mg_of X G g_BadOdds, ⟨⟨_, _, _, _, _, _, _, _, _, _, _, _, _, _, _, oc_BadOdds, om_BadOdds⟩, sa_BadOdds, sb_BadOdds, ty_BadOdds, kp_BadOdds⟩⟩
  have D1 : Df K mg "_law_draws" s_law_draws ["cell", "sizes"] := df_of X G a1 l1 c1 k1 fun _ _ _ _ _ _ us hl => match us, hl with | [_, _], _ => rfl
  have D2 : Df K mg "_law_cell" s_law_cell ["script", "k"] := df_of X G a2 l2 c2 k2 fun _ _ _ _ _ _ us hl => match us, hl with | [_, _], _ => rfl
  have D3 : Df K mg "_law_sights" s_law_sights ["script"] := df_of X G a3 l3 c3 k3 fun _ _ _ _ _ _ us hl => match us, hl with | [_], _ => rfl
  have D4 : Df K mg "_law_counts" s_law_counts ["script", "sights"] := df_of X G a4 l4 c4 k4 fun _ _ _ _ _ _ us hl => match us, hl with | [_, _], _ => rfl
  have D5 : Df K mg "_law_gcd" s_law_gcd ["first", "second"] := df_of X G a5 l5 c5 k5 fun _ _ _ _ _ _ us hl => match us, hl with | [_, _], _ => rfl
  have D6 : Df K mg "_law_ratio" s_law_ratio ["n", "d"] := df_of X G a6 l6 c6 k6 fun _ _ _ _ _ _ us hl => match us, hl with | [_, _], _ => rfl
  have D7 : Df K mg "_law_spoil_start" s_law_spoil_start ["start", "drawn"] := df_of X G a7 l7 c7 k7 fun _ _ _ _ _ _ us hl => match us, hl with | [_, _], _ => rfl
  have D8 : Df K mg "_law_spoil_sights" s_law_spoil_sights ["sights", "drawn"] := df_of X G a8 l8 c8 k8 fun _ _ _ _ _ _ us hl => match us, hl with | [_, _], _ => rfl
  have D9 : Df K mg "_law_fits" s_law_fits ["sights"] := df_of X G a9 l9 c9 k9 fun _ _ _ _ _ _ us hl => match us, hl with | [_], _ => rfl
  have D10 : Df K mg "_law_numbered" s_law_numbered ["labels"] := df_of X G a10 l10 c10 k10 fun _ _ _ _ _ _ us hl => match us, hl with | [_], _ => rfl
  have D11 : Df K mg "_law_lowest" s_law_lowest ["cells", "weights"] := df_of X G a11 l11 c11 k11 fun _ _ _ _ _ _ us hl => match us, hl with | [_, _], _ => rfl
  have D12 : Df K mg "_law_cells" s_law_cells ["labels"] := df_of X G a12 l12 c12 k12 fun _ _ _ _ _ _ us hl => match us, hl with | [_], _ => rfl
  have D13 : Df K mg "_law_due" s_law_due ["sights", "start"] := df_of X G a13 l13 c13 k13 fun _ _ _ _ _ _ us hl => match us, hl with | [_, _], _ => rfl
  have D14 : Df K mg "check_sights" s_check_sights ["sights"] := df_of X G a14 l14 c14 k14 fun _ _ _ _ _ _ us hl => match us, hl with | [_], _ => rfl
  have D15 : Df K mg "check_odds" s_check_odds ["sights", "odds"] := df_of X G a15 l15 c15 k15 fun _ _ _ _ _ _ us hl => match us, hl with | [_, _], _ => rfl
  have D16 : Df K mg "numbered" s_numbered ["row"] := df_of X G a16 l16 c16 k16 fun _ _ _ _ _ _ us hl => match us, hl with | [_], _ => rfl
  have D17 : Df K mg "gathered" s_gathered ["labels"] := df_of X G a17 l17 c17 k17 fun _ _ _ _ _ _ us hl => match us, hl with | [_], _ => rfl
  have D18 : Df K mg "lowest" s_lowest ["person", "cells", "weights"] := df_of X G a18 l18 c18 k18 fun _ _ _ _ _ _ us hl => match us, hl with | [_, _, _], _ => rfl
  have D19 : Di K mg (cm.at_ "Book") "Book" "Book.__init__" s_Book_init ["self", "sights", "odds"] := ⟨f19, _, fun_mk l19 c19 k19, ⟨mk_Book, a19, i19, kc_Book⟩, PySem.W.mg_of X G g_Book, (fun_mk l19 c19 k19).binds fun _ _ _ _ _ _ us hl => match us, hl with | [_, _, _], _ => rfl⟩
  have D20 : Df K mg "whole" s_whole ["numbers"] := df_of X G a20 l20 c20 k20 fun _ _ _ _ _ _ us hl => match us, hl with | [_], _ => rfl
  have D21 : Df K mg "ratio" s_ratio ["n", "d"] := df_of X G a21 l21 c21 k21 fun _ _ _ _ _ _ us hl => match us, hl with | [_, _], _ => rfl
  have D22 : Dv K mg "plus" s_plus "numbers" := ⟨f22, _, fun_mk l22 c22 k22, PySem.W.mg_of X G a22, fun rest => match rest with | [] => rfl | _ :: _ => rfl⟩
  have D23 : Df K mg "is_shares" s_is_shares ["row"] := df_of X G a23 l23 c23 k23 fun _ _ _ _ _ _ us hl => match us, hl with | [_], _ => rfl
  have D24 : Dc K (cm.at_ "Book") "from_start" "Book.from_start" s_Book_from_start ["cls", "sights", "start"] := ⟨pc24, f24, _, fun_mk l24 c24 k24, ⟨rd24, sg24⟩, ⟨a24, ⟨_, i24⟩, n24⟩, (fun_mk l24 c24 k24).binds fun _ _ _ _ _ _ us hl => match us, hl with | [_, _, _], _ => rfl⟩
  have D25 : Df K mg "_law_plain" s_law_plain ["actual"] := df_of X G a25 l25 c25 k25 fun _ _ _ _ _ _ us hl => match us, hl with | [_], _ => rfl
  have D26 : Df K mg "_law_ask" s_law_ask ["sights", "start"] := df_of X G a26 l26 c26 k26 fun _ _ _ _ _ _ us hl => match us, hl with | [_, _], _ => rfl
  have D27 : Df K mg "_law_same" s_law_same ["actual", "due"] := df_of X G a27 l27 c27 k27 fun _ _ _ _ _ _ us hl => match us, hl with | [_, _], _ => rfl
  have D28 : Dm K (cm.at_ "Book") "sights" "Book.sights" s_Book_sights ["self"] := ⟨f28, _, fun_mk l28 c28 k28, ⟨a28, i28, k28⟩, (fun_mk l28 c28 k28).binds fun _ _ _ _ _ _ us hl => match us, hl with | [_], _ => rfl⟩
  have D29 : Dm K (cm.at_ "Book") "odds" "Book.odds" s_Book_odds ["self"] := ⟨f29, _, fun_mk l29 c29 k29, ⟨a29, i29, k29⟩, (fun_mk l29 c29 k29).binds fun _ _ _ _ _ _ us hl => match us, hl with | [_], _ => rfl⟩
  have D30 : Df K mg "_law_agrees" s_law_agrees ["sights", "start"] := df_of X G a30 l30 c30 k30 fun _ _ _ _ _ _ us hl => match us, hl with | [_, _], _ => rfl
  refine law_end X G hfa a31 l31 c31 k31 _ (fun s v => .of_eq rfl) fun fd base F => ?_
  have G_BadOdds : FnX l.prog w K mg base 1 "BadOdds" (Cm.at_ "BadOdds") ["person", "world"] := Dx.ok2 D0 sc_BadOdds_init xq_BadOdds_person xq_BadOdds_world fun f' cdv A outer s H E hr => (pss_cons (ps_expr (pe_up up_ rfl (pa_cons (pv 0) (pa_cons pe_str pa_nil)))) (pss_cons (ps_ost (pv 0) (pv 1)) (pss_one (ps_ost (pv 0) (pv 2)))))
  have G_law_draws := ok_law_draws (P := l.prog) (w := w) (base := base) D1 gm 
  have G_law_cell := ok_law_cell (P := l.prog) (w := w) (base := base) D2 gm 
  have G_law_sights := ok_law_sights (P := l.prog) (w := w) (base := base) D3 gm G_law_draws G_law_cell
  have G_law_counts := ok_law_counts (P := l.prog) (w := w) (base := base) D4 gm G_law_draws G_law_cell
  have G_law_gcd := ok_law_gcd (P := l.prog) (w := w) (base := base) D5 gm 
  have G_law_ratio := ok_law_ratio (P := l.prog) (w := w) (base := base) D6 gm G_law_gcd
  have G_law_spoil_start := ok_law_spoil_start (P := l.prog) (w := w) (base := base) D7 gm G_law_ratio
  have G_law_spoil_sights := ok_law_spoil_sights (P := l.prog) (w := w) (base := base) D8 gm 
  have G_law_fits := ok_law_fits (P := l.prog) (w := w) (base := base) D9 gm 
  have G_law_numbered := ok_law_numbered (P := l.prog) (w := w) (base := base) D10 gm 
  have G_law_lowest := ok_law_lowest (P := l.prog) (w := w) (base := base) D11 gm G_law_gcd
  have G_law_cells := ok_law_cells (P := l.prog) (w := w) (base := base) D12 gm 
  have G_law_due := ok_law_due (P := l.prog) (w := w) (base := base) D13 gm G_law_fits G_law_gcd G_law_numbered G_law_lowest G_law_cells
  have G_check_sights := ok_check_sights (P := l.prog) (w := w) (base := base) D14 gm 
  have G_check_odds := ok_check_odds (P := l.prog) (w := w) (base := base) D15 gm 
  have G_numbered := ok_numbered (P := l.prog) (w := w) (base := base) D16 gm 
  have G_gathered := ok_gathered (P := l.prog) (w := w) (base := base) D17 gm 
  have G_lowest := ok_lowest (P := l.prog) (w := w) (base := base) D18 gm G_BadOdds
  have G_Book := ok_Book_init (P := l.prog) (w := w) (base := base) D19 gm G_check_sights G_check_odds G_numbered G_gathered G_lowest
  have G_whole := ok_whole (P := l.prog) (w := w) (base := base) D20 gm 
  have G_ratio := ok_ratio (P := l.prog) (w := w) (base := base) D21 gm 
  have G_plus := ok_plus (P := l.prog) (w := w) (base := base) D22 gm G_ratio
  have G_is_shares := ok_is_shares (P := l.prog) (w := w) (base := base) D23 gm G_plus
  have G_Book_from_start := ok_Book_from_start (P := l.prog) (w := w) (base := base) D24 gm G_check_sights G_is_shares G_whole G_lowest G_gathered G_numbered G_Book
  have GE_law_plain := okh_law_plain (P := l.prog) (w := w) (base := base) D25 gm 
  have G_law_ask := ok_law_ask (P := l.prog) (w := w) (base := base) D26 gm G_Book_from_start GE_law_plain
  have G_law_same := ok_law_same (P := l.prog) (w := w) (base := base) D27 gm  8
  have G_Book_sights := ok_Book_sights (P := l.prog) (w := w) (base := base) D28 gm 
  have G_Book_odds := ok_Book_odds (P := l.prog) (w := w) (base := base) D29 gm 
  have G_law_agrees := ok_law_agrees (P := l.prog) (w := w) (base := base) D30 gm G_law_due G_law_ask G_law_same G_Book_sights G_Book_odds
  exact ok_law (P := l.prog) (w := w) (base := base) F gm G_law_sights G_law_counts G_law_ratio G_law_agrees G_law_spoil_start G_law_draws G_law_cell G_law_spoil_sights plain_law
end FS
open PySem PySem.W PyProof.Rows
set_option maxHeartbeats 0 in
theorem PySem.Challenge.cw_fairstart_k06_books_of_one_start_holds : PySem.Challenge.rw_fairstart_k06_books_of_one_start.Holds := by
  w_on; o_law; k_head; (case hw => w_witness2)
  k_fill
  refine L2.walk_ofK (l := PySem.Challenge.rw_fairstart_k06_books_of_one_start) (n := 63) (k := 10) (x := "script") (CX := L2.CX0) (sp := fun K => FS.spD K FS.P_law) rfl (by decide) rfl ⟨rfl, by decide, by decide⟩ (fun w h Y => PySem.W.kIn_of Y) ?F (fun _ _ a ns hl _ hS => FS.sp_law hS) (fun _ _ _ _ h => h)
  case F =>
    intro w mg fa h KX G hmg
    refine' FS.all_mk KX G hmg ?a0 ?i0 ?l0 ?c0 ?k0 ?a1 ?l1 ?c1 ?k1 ?a2 ?l2 ?c2 ?k2 ?a3 ?l3 ?c3 ?k3 ?a4 ?l4 ?c4 ?k4 ?a5 ?l5 ?c5 ?k5 ?a6 ?l6 ?c6 ?k6 ?a7 ?l7 ?c7 ?k7 ?a8 ?l8 ?c8 ?k8 ?a9 ?l9 ?c9 ?k9 ?a10 ?l10 ?c10 ?k10 ?a11 ?l11 ?c11 ?k11 ?a12 ?l12 ?c12 ?k12 ?a13 ?l13 ?c13 ?k13 ?a14 ?l14 ?c14 ?k14 ?a15 ?l15 ?c15 ?k15 ?a16 ?l16 ?c16 ?k16 ?a17 ?l17 ?c17 ?k17 ?a18 ?l18 ?c18 ?k18 ?a19 ?i19 ?l19 ?c19 ?k19 ?a20 ?l20 ?c20 ?k20 ?a21 ?l21 ?c21 ?k21 ?a22 ?l22 ?c22 ?k22 ?a23 ?l23 ?c23 ?k23 ?a24 ?i24 ?n24 ?rd24 ?sg24 ?l24 ?c24 ?k24 ?a25 ?l25 ?c25 ?k25 ?a26 ?l26 ?c26 ?k26 ?a27 ?l27 ?c27 ?k27 ?a28 ?i28 ?l28 ?c28 ?k28 ?a29 ?i29 ?l29 ?c29 ?k29 ?a30 ?l30 ?c30 ?k30 ?a31 ?l31 ?c31 ?k31 ?g_Book ?pg_Book ?hd_Book ?po_Book ?sa_Book ?mk_Book ?kc_Book ?ca_Book ?mo_Book ?ty_Book ?sn_Book_NoneType ?sn_Book_bool ?sn_Book_int ?sn_Book_str ?sn_Book_tuple ?sn_Book_list ?hn_ ?ht_ ?g_Fault ?ga_Fault ?gg_Fault ?sb_Fault ?hd_Fault ?ca_Fault ?mo_Fault ?ty_Fault ?kp_Fault ?rd_Fault ?sg_Fault ?fc_Fault ?g_BadBook ?ga_BadBook ?gg_BadBook ?sb_BadBook ?hd_BadBook ?ca_BadBook ?mo_BadBook ?ty_BadBook ?kp_BadBook ?xi_BadBook ?g_BadOdds ?ga_BadOdds ?gg_BadOdds ?sb_BadOdds ?hd_BadOdds ?ca_BadOdds ?mo_BadOdds ?ty_BadOdds ?kp_BadOdds ?oc_BadOdds ?om_BadOdds ?sa_BadOdds ?xq_BadOdds_person ?xq_BadOdds_world ?g_BadNumber ?ga_BadNumber ?gg_BadNumber ?sb_BadNumber ?hd_BadNumber ?ca_BadNumber ?mo_BadNumber ?ty_BadNumber ?kp_BadNumber ?xi_BadNumber ?g_BadRow ?ga_BadRow ?gg_BadRow ?sb_BadRow ?hd_BadRow ?ca_BadRow ?mo_BadRow ?ty_BadRow ?kp_BadRow ?xi_BadRow ?g_BadOrder ?ga_BadOrder ?gg_BadOrder ?sb_BadOrder ?hd_BadOrder ?ca_BadOrder ?mo_BadOrder ?ty_BadOrder ?kp_BadOrder ?g_BadText ?ga_BadText ?gg_BadText ?sb_BadText ?hd_BadText ?ca_BadText ?mo_BadText ?ty_BadText ?kp_BadText ?s_BadBook_BadBook ?s_BadBook_BadOdds ?s_BadBook_BadOrder ?s_BadBook_BadRow ?s_BadBook_BadText ?s_BadBook_Fault ?s_BadNumber_BadBook ?s_BadNumber_BadNumber ?s_BadNumber_BadOdds ?s_BadNumber_BadOrder ?s_BadNumber_BadRow ?s_BadNumber_BadText ?s_BadNumber_Fault ?s_BadOdds_BadBook ?s_BadOdds_BadOdds ?s_BadOdds_BadOrder ?s_BadOdds_BadRow ?s_BadOdds_BadText ?s_BadOdds_Fault ?s_BadRow_BadBook ?s_BadRow_BadOdds ?s_BadRow_BadOrder ?s_BadRow_BadRow ?s_BadRow_BadText ?s_BadRow_Fault ?z12 ?z13 ?z14 ?z15 ?z16 ?z17 ?z23 ?z24 ?z25 ?z26 ?zl26 ?z27 ?z28 ?z29 ?z30 ?z31 ?z32 ?z33 ?z34 ?z35 ?z36 ?z37 ?z38 ?z39
    (case g_Book => k_is); (case g_Fault => k_is); (case g_BadBook => k_is); (case g_BadOdds => k_is); (case g_BadNumber => k_is); (case g_BadRow => k_is); (case g_BadOrder => k_is); (case g_BadText => k_is); (case pg_Book => k_is); (case hd_Book => k_is); (case po_Book => k_is); (case sa_Book => k_is); (case mk_Book => k_is); (case kc_Book => k_is); (case ca_Book => k_is); (case mo_Book => k_is); (case ty_Book => k_is); (case sn_Book_NoneType => k_is); (case sn_Book_bool => k_is); (case sn_Book_int => k_is); (case sn_Book_str => k_is); (case sn_Book_tuple => k_is); (case sn_Book_list => k_is); (case hn_ => k_is); (case ht_ => k_is); (case ga_Fault => k_is); (case gg_Fault => k_is); (case sb_Fault => k_is); (case hd_Fault => k_is); (case ca_Fault => k_is); (case mo_Fault => k_is); (case ty_Fault => k_is); (case kp_Fault => k_is); (case rd_Fault => k_is); (case sg_Fault => k_is); (case fc_Fault => k_is); (case ga_BadBook => k_is); (case gg_BadBook => k_is); (case sb_BadBook => k_is); (case hd_BadBook => k_is); (case ca_BadBook => k_is); (case mo_BadBook => k_is); (case ty_BadBook => k_is); (case kp_BadBook => k_is); (case xi_BadBook => k_exc); (case ga_BadOdds => k_is); (case gg_BadOdds => k_is); (case sb_BadOdds => k_is); (case hd_BadOdds => k_is); (case ca_BadOdds => k_is); (case mo_BadOdds => k_is); (case ty_BadOdds => k_is); (case kp_BadOdds => k_is); (case oc_BadOdds => k_is); (case sa_BadOdds => k_is); (case xq_BadOdds_person => k_is); (case xq_BadOdds_world => k_is); (case ga_BadNumber => k_is); (case gg_BadNumber => k_is); (case sb_BadNumber => k_is); (case hd_BadNumber => k_is); (case ca_BadNumber => k_is); (case mo_BadNumber => k_is); (case ty_BadNumber => k_is); (case kp_BadNumber => k_is); (case xi_BadNumber => k_exc); (case ga_BadRow => k_is); (case gg_BadRow => k_is); (case sb_BadRow => k_is); (case hd_BadRow => k_is); (case ca_BadRow => k_is); (case mo_BadRow => k_is); (case ty_BadRow => k_is); (case kp_BadRow => k_is); (case xi_BadRow => k_exc); (case ga_BadOrder => k_is); (case gg_BadOrder => k_is); (case sb_BadOrder => k_is); (case hd_BadOrder => k_is); (case ca_BadOrder => k_is); (case mo_BadOrder => k_is); (case ty_BadOrder => k_is); (case kp_BadOrder => k_is); (case ga_BadText => k_is); (case gg_BadText => k_is); (case sb_BadText => k_is); (case hd_BadText => k_is); (case ca_BadText => k_is); (case mo_BadText => k_is); (case ty_BadText => k_is); (case kp_BadText => k_is); (case s_BadBook_BadBook => k_is); (case s_BadBook_BadOdds => k_is); (case s_BadBook_BadOrder => k_is); (case s_BadBook_BadRow => k_is); (case s_BadBook_BadText => k_is); (case s_BadBook_Fault => k_is); (case s_BadNumber_BadBook => k_is); (case s_BadNumber_BadNumber => k_is); (case s_BadNumber_BadOdds => k_is); (case s_BadNumber_BadOrder => k_is); (case s_BadNumber_BadRow => k_is); (case s_BadNumber_BadText => k_is); (case s_BadNumber_Fault => k_is); (case s_BadOdds_BadBook => k_is); (case s_BadOdds_BadOdds => k_is); (case s_BadOdds_BadOrder => k_is); (case s_BadOdds_BadRow => k_is); (case s_BadOdds_BadText => k_is); (case s_BadOdds_Fault => k_is); (case s_BadRow_BadBook => k_is); (case s_BadRow_BadOdds => k_is); (case s_BadRow_BadOrder => k_is); (case s_BadRow_BadRow => k_is); (case s_BadRow_BadText => k_is); (case s_BadRow_Fault => k_is); (case a0 => k_is); (case i0 => k_is); (case l0 => k_is); (case c0 => k_is); (case k0 => k_is); (case a1 => k_is); (case l1 => k_is); (case c1 => k_is); (case k1 => k_is); (case a2 => k_is); (case l2 => k_is); (case c2 => k_is); (case k2 => k_is); (case a3 => k_is); (case l3 => k_is); (case c3 => k_is); (case k3 => k_is); (case a4 => k_is); (case l4 => k_is); (case c4 => k_is); (case k4 => k_is); (case a5 => k_is); (case l5 => k_is); (case c5 => k_is); (case k5 => k_is); (case a6 => k_is); (case l6 => k_is); (case c6 => k_is); (case k6 => k_is); (case a7 => k_is); (case l7 => k_is); (case c7 => k_is); (case k7 => k_is); (case a8 => k_is); (case l8 => k_is); (case c8 => k_is); (case k8 => k_is); (case a9 => k_is); (case l9 => k_is); (case c9 => k_is); (case k9 => k_is); (case a10 => k_is); (case l10 => k_is); (case c10 => k_is); (case k10 => k_is); (case a11 => k_is); (case l11 => k_is); (case c11 => k_is); (case k11 => k_is); (case a12 => k_is); (case l12 => k_is); (case c12 => k_is); (case k12 => k_is); (case a13 => k_is); (case l13 => k_is); (case c13 => k_is); (case k13 => k_is); (case a14 => k_is); (case l14 => k_is); (case c14 => k_is); (case k14 => k_is); (case a15 => k_is); (case l15 => k_is); (case c15 => k_is); (case k15 => k_is); (case a16 => k_is); (case l16 => k_is); (case c16 => k_is); (case k16 => k_is); (case a17 => k_is); (case l17 => k_is); (case c17 => k_is); (case k17 => k_is); (case a18 => k_is); (case l18 => k_is); (case c18 => k_is); (case k18 => k_is); (case a19 => k_is); (case i19 => k_is); (case l19 => k_is); (case c19 => k_is); (case k19 => k_is); (case a20 => k_is); (case l20 => k_is); (case c20 => k_is); (case k20 => k_is); (case a21 => k_is); (case l21 => k_is); (case c21 => k_is); (case k21 => k_is); (case a22 => k_is); (case l22 => k_is); (case c22 => k_is); (case k22 => k_is); (case a23 => k_is); (case l23 => k_is); (case c23 => k_is); (case k23 => k_is); (case a24 => k_is); (case i24 => k_is); (case n24 => k_is); (case rd24 => k_is); (case sg24 => k_is); (case l24 => k_is); (case c24 => k_is); (case k24 => k_is); (case a25 => k_is); (case l25 => k_is); (case c25 => k_is); (case k25 => k_is); (case a26 => k_is); (case l26 => k_is); (case c26 => k_is); (case k26 => k_is); (case a27 => k_is); (case l27 => k_is); (case c27 => k_is); (case k27 => k_is); (case a28 => k_is); (case i28 => k_is); (case l28 => k_is); (case c28 => k_is); (case k28 => k_is); (case a29 => k_is); (case i29 => k_is); (case l29 => k_is); (case c29 => k_is); (case k29 => k_is); (case a30 => k_is); (case l30 => k_is); (case c30 => k_is); (case k30 => k_is); (case a31 => k_is); (case l31 => k_is); (case c31 => k_is); (case k31 => k_is); (case z12 => k_is); (case z13 => k_is); (case z14 => k_is); (case z15 => k_is); (case z16 => k_is); (case z17 => k_is); (case z23 => k_is); (case z24 => k_is); (case z25 => k_is); (case z26 => k_is); (case zl26 => k_is); (case z27 => k_is); (case z28 => k_is); (case z29 => k_is); (case z30 => k_is); (case z31 => k_is); (case z32 => k_is); (case z33 => k_is); (case z34 => k_is); (case z35 => k_is); (case z36 => k_is); (case z37 => k_is); (case z38 => k_is); (case z39 => k_is); (case om_BadOdds => decide +kernel)
