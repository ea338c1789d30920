import PyProof.Rows.All
import Wide.All
import OpenK.AllK
import Wide.FinOn
import HandS.ForMost
import HandS.Star
import HandS.Gcd
import HandS.Wide
import HandS.IsInst
import HandS.Flow
import HandS.WordsExc
import PySem.Challenge.RW_fairstart_k01_whole_factors
set_option Elab.async false
set_option linter.all false
set_option maxRecDepth 100000
set_option maxHeartbeats 4000000
/-! Values as plain data, and readings of code over plain data: no heap in sight. -/
namespace FS
open PySem PySem.Spec PyProof.Rows L2

/-- plain data -/
inductive D where
  | non
  | bl (b : Bool)
  | int (i : Int)
  | str (x : Str)
  | tup (l : List D)
  | lst (l : List D)
  | scr (ns : List Int)
  | ty (n : String)
  | obj (a : Addr)
  | ins (C : Addr) (ns : List Str) (ds : List D)

mutual
/-- v stands for d -/
def Is (K : PySem.W.Frag) (H : Hp) : D → V → Prop
  | .non, v => v = .non
  | .bl b, v => v = .bl b
  | .int i, v => v = .int i
  | .str x, v => v = .str x
  | .tup l, v => ∃ a vs, v = .ref a ∧ SqT K H a vs ∧ IsL K H l vs
  | .lst l, v => ∃ a vs, v = .ref a ∧ H a = some (.lst vs) ∧ IsL K H l vs
  | .scr ns, v => ∃ a, v = .ref a ∧ SqL K H a (ns.map V.int)
  | .ty n, v => v = .ty n
  | .obj a, v => v = .ref a
  | .ins C ns l, v => ∃ a dx vs, v = .ref a ∧ H a = some (.ins C dx (ns.zip vs)) ∧ IsL K H l vs
def IsL (K : PySem.W.Frag) (H : Hp) : List D → List V → Prop
  | [], vs => vs = []
  | d :: l, vs => ∃ v r, vs = v :: r ∧ Is K H d v ∧ IsL K H l r
end

theorem same_t {K : PySem.W.Frag} {H H' : Hp} {a : Addr} {xs : List V} (e : Same H H') (h : SqT K H a xs) : SqT K H' a xs := by
  rcases h with (h | ⟨o, h⟩) | h
  · exact .inl (.inl (e _ _ h))
  · exact .inl (.inr ⟨o, e _ _ h⟩)
  · exact .inr h
mutual
theorem Is.mono {K : PySem.W.Frag} {H H' : Hp} (e : Same H H') : ∀ (d : D) (v : V), Is K H d v → Is K H' d v
  | .non, _, h => h
  | .bl _, _, h => h
  | .int _, _, h => h
  | .str _, _, h => h
  | .tup l, v, ⟨a, vs, h1, h2, h3⟩ => ⟨a, vs, h1, same_t e h2, IsL.mono e l vs h3⟩
  | .lst l, v, ⟨a, vs, h1, h2, h3⟩ => ⟨a, vs, h1, e _ _ h2, IsL.mono e l vs h3⟩
  | .scr ns, v, ⟨a, h1, h2⟩ => ⟨a, h1, e.seq h2⟩
  | .ty _, _, h => h
  | .obj _, _, h => h
  | .ins C ns l, v, ⟨a, dx, vs, h1, h2, h3⟩ => ⟨a, dx, vs, h1, e _ _ h2, IsL.mono e l vs h3⟩
theorem IsL.mono {K : PySem.W.Frag} {H H' : Hp} (e : Same H H') : ∀ (l : List D) (vs : List V), IsL K H l vs → IsL K H' l vs
  | [], _, h => h
  | d :: l, vs, ⟨v, r, h1, h2, h3⟩ => ⟨v, r, h1, Is.mono e d v h2, IsL.mono e l r h3⟩
end
theorem Is.up {K : PySem.W.Frag} {H H' : Hp} {d : D} {v : V} (h : Is K H d v) (e : Same H H') : Is K H' d v := Is.mono e d v h
theorem IsL.up {K : PySem.W.Frag} {H H' : Hp} {l : List D} {vs : List V} (h : IsL K H l vs) (e : Same H H') : IsL K H' l vs := IsL.mono e l vs h

section
variable {K : PySem.W.Frag} {H : Hp}
theorem IsL.len : ∀ {l : List D} {vs : List V}, IsL K H l vs → vs.length = l.length
  | [], _, h => by rw [show _ = [] from h] <;> rfl
  | _ :: l, _, ⟨v, r, e, _, h⟩ => by rw [e, List.length_cons, List.length_cons, IsL.len h]
theorem IsL.get : ∀ {l : List D} {vs : List V} {i : Nat} {d : D}, IsL K H l vs → l[i]? = some d → ∃ v, vs[i]? = some v ∧ Is K H d v
  | [], _, _, _, _, e => by simp at e
  | _ :: _, _, 0, _, ⟨v, r, e, h, _⟩, q => by
    rw [e]
    have q : _ = _ := Option.some.inj q
    exact ⟨v, rfl, q ▸ h⟩
  | _ :: l, _, i + 1, d, ⟨v, r, e, _, h⟩, q => by
    rw [e]
    obtain ⟨u, h1, h2⟩ := IsL.get (i := i) (d := d) h (by simpa using q)
    exact ⟨u, by simpa using h1, h2⟩
theorem IsL.got : ∀ {l : List D} {vs : List V} {i : Nat} {v : V}, IsL K H l vs → vs[i]? = some v → ∃ d, l[i]? = some d ∧ Is K H d v := fun {l vs i v} h e => by
  have hl := h.len
  have hi := (List.getElem?_eq_some_iff.mp e).1
  have hd : l[i]? = some (l[i]'(by omega)) := List.getElem?_eq_getElem (by omega)
  obtain ⟨u, h1, h2⟩ := h.get hd
  rw [e] at h1
  have q : v = u := Option.some.inj h1
  exact ⟨_, hd, q ▸ h2⟩
theorem IsL.app : ∀ {l l' : List D} {vs us : List V}, IsL K H l vs → IsL K H l' us → IsL K H (l ++ l') (vs ++ us)
  | [], _, _, _, h, h' => by rw [show _ = [] from h]; exact h'
  | d :: l, _, _, _, ⟨v, r, e, h1, h2⟩, h' => by rw [e]; exact ⟨v, r ++ _, rfl, h1, IsL.app h2 h'⟩
theorem IsL.one {d : D} {v : V} (h : Is K H d v) : IsL K H [d] [v] := ⟨v, [], rfl, h, rfl⟩
theorem IsL.cons {d : D} {v : V} {l : List D} {vs : List V} (h : Is K H d v) (h' : IsL K H l vs) : IsL K H (d :: l) (v :: vs) := ⟨v, vs, rfl, h, h'⟩
theorem IsL.set {d : D} {v : V} (h : Is K H d v) : ∀ {l : List D} {vs : List V} (i : Nat), IsL K H l vs → IsL K H (l.set i d) (vs.set i v)
  | [], _, _, e => by rw [show _ = [] from e]; exact (rfl : [] = [])
  | _ :: _, _, 0, ⟨u, r, e, _, h2⟩ => by rw [e]; exact ⟨v, r, rfl, h, h2⟩
  | _ :: _, _, i + 1, ⟨u, r, e, h1, h2⟩ => by rw [e]; exact ⟨u, r.set i v, rfl, h1, IsL.set h i h2⟩
theorem IsL.take : ∀ {l : List D} {vs : List V} (n : Nat), IsL K H l vs → IsL K H (l.take n) (vs.take n)
  | [], _, n, e => by rw [show _ = [] from e]; simp [IsL]
  | _ :: _, _, 0, _ => by simp [IsL]
  | _ :: _, _, n + 1, ⟨u, r, e, h1, h2⟩ => by rw [e]; exact ⟨u, r.take n, rfl, h1, IsL.take n h2⟩
theorem IsL.drop : ∀ {l : List D} {vs : List V} (n : Nat), IsL K H l vs → IsL K H (l.drop n) (vs.drop n)
  | [], _, n, e => by rw [show _ = [] from e]; simp [IsL]
  | _ :: _, _, 0, h => by simpa using h
  | _ :: _, _, n + 1, ⟨u, r, e, h1, h2⟩ => by rw [e]; simpa using IsL.drop n h2
theorem IsL.dropLast {l : List D} {vs : List V} (h : IsL K H l vs) : IsL K H l.dropLast vs.dropLast := by
  rw [List.dropLast_eq_take, List.dropLast_eq_take, h.len]
  exact h.take _
/-- data of plain ints, of plain things: the values are known -/
theorem isL_ints (ns : List Int) : IsL K H (ns.map D.int) (ns.map V.int) := by
  induction ns with
  | nil => exact (rfl : [] = [])
  | cons n r ih => exact ⟨_, _, rfl, rfl, ih⟩
theorem isL_ints_inv : ∀ {ns : List Int} {vs : List V}, IsL K H (ns.map D.int) vs → vs = ns.map V.int
  | [], _, h => h
  | n :: r, _, ⟨v, q, e, h1, h2⟩ => by rw [e, show v = V.int n from h1, isL_ints_inv h2] <;> rfl
end

/-! ### what is open: objects that somebody will still change -/
abbrev Op := List (Addr × HO)
/-- H: what is known and stays; T: the heap as it stands; M: what is open, with what it holds -/
structure Opn (H T : Hp) (M : Op) : Prop where
  same : Same H T
  free : ∀ x ∈ M, H x.1 = none
  at_ : ∀ x ∈ M, T x.1 = some x.2
  nd : (M.map (·.1)).Nodup
section
variable {H H' T T' : Hp} {M N : Op} {p : Addr} {o o' : HO}
theorem Opn.fresh (h : Opn H T M) (hp : T p = none) : H p = none := h.same.free hp
theorem Opn.fresh_ne (h : Opn H T M) (hp : T p = none) : ∀ x ∈ M, x.1 ≠ p := fun x hx e => by
  have := h.at_ x hx
  rw [e, hp] at this
  cases this
theorem same_new {H : Hp} {p : Addr} {o : HO} (h : H p = none) : Same H (upd H p o) := fun b x e => by
  rw [upd_ne (ne_of_none e h)]
  exact e
/-- a new object, known at once -/
theorem Opn.new (h : Opn H T M) (hp : T p = none) : Opn (upd H p o) (upd T p o) M where
  same := fun b x e => by
    by_cases hb : b = p
    · subst hb
      rw [upd_same] at e ⊢
      exact e
    · rw [upd_ne hb] at e ⊢
      exact h.same b x e
  free := fun x hx => by
    rw [upd_ne (h.fresh_ne hp x hx)]
    exact h.free x hx
  at_ := fun x hx => by
    rw [upd_ne (h.fresh_ne hp x hx)]
    exact h.at_ x hx
  nd := h.nd
/-- a new object, open -/
theorem Opn.opened (h : Opn H T M) (hp : T p = none) : Opn H (upd T p o) ((p, o) :: M) where
  same := h.same.trans (same_new hp)
  free := fun x hx => by
    rcases List.mem_cons.mp hx with rfl | hx
    · exact h.fresh hp
    · exact h.free x hx
  at_ := fun x hx => by
    rcases List.mem_cons.mp hx with rfl | hx
    · exact upd_same
    · rw [upd_ne (h.fresh_ne hp x hx)]
      exact h.at_ x hx
  nd := by
    rw [List.map_cons, List.nodup_cons]
    refine ⟨fun hm => ?_, h.nd⟩
    obtain ⟨x, hx, e⟩ := List.mem_map.mp hm
    exact h.fresh_ne hp x hx e
theorem Opn.ne_head (h : Opn H T ((p, o) :: M)) : ∀ x ∈ M, x.1 ≠ p := fun x hx e => by
  have := (List.nodup_cons.mp h.nd).1
  exact this (List.mem_map.mpr ⟨x, hx, e⟩)
theorem Opn.tail (h : Opn H T ((p, o) :: M)) : Opn H T M where
  same := h.same
  free := fun x hx => h.free x (List.mem_cons_of_mem _ hx)
  at_ := fun x hx => h.at_ x (List.mem_cons_of_mem _ hx)
  nd := (List.nodup_cons.mp h.nd).2
/-- the first open object is done: it is known from now on -/
theorem Opn.close (h : Opn H T ((p, o) :: M)) : Same H (upd H p o) ∧ Opn (upd H p o) T M := by
  have hp : H p = none := h.free _ List.mem_cons_self
  refine ⟨same_new hp, ?_, ?_, ?_, h.tail.nd⟩
  · intro b x e
    by_cases hb : b = p
    · subst hb
      rw [upd_same] at e
      rw [← e]
      exact h.at_ _ List.mem_cons_self
    · rw [upd_ne hb] at e
      exact h.same b x e
  · intro x hx
    rw [upd_ne (h.ne_head x hx)]
    exact h.tail.free x hx
  · exact h.tail.at_
/-- the first open object is written -/
theorem Opn.write (h : Opn H T ((p, o) :: M)) : Opn H (upd T p o') ((p, o') :: M) where
  same := fun b x e => by
    rw [upd_ne (ne_of_none e (h.free _ List.mem_cons_self))]
    exact h.same b x e
  free := fun x hx => by
    rcases List.mem_cons.mp hx with rfl | hx
    · exact h.free (p, o) List.mem_cons_self
    · exact h.tail.free x hx
  at_ := fun x hx => by
    rcases List.mem_cons.mp hx with rfl | hx
    · exact upd_same
    · rw [upd_ne (h.ne_head x hx)]
      exact h.tail.at_ x hx
  nd := h.nd
theorem Opn.perm (h : Opn H T M) (e : List.Perm M N) : Opn H T N where
  same := h.same
  free := fun x hx => h.free x (e.mem_iff.mpr hx)
  at_ := fun x hx => h.at_ x (e.mem_iff.mpr hx)
  nd := (e.map (·.1)).nodup_iff.mp h.nd
theorem Opn.sub (h : Opn H T M) (e : List.Sublist N M) : Opn H T N where
  same := h.same
  free := fun x hx => h.free x (e.subset hx)
  at_ := fun x hx => h.at_ x (e.subset hx)
  nd := h.nd.sublist (e.map (·.1))
end

/-! ### closed trees: data whose objects are all open, L -/
mutual
def IsC : D → V → Op → Prop
  | .non, v, L => v = .non ∧ L = []
  | .bl b, v, L => v = .bl b ∧ L = []
  | .int i, v, L => v = .int i ∧ L = []
  | .str x, v, L => v = .str x ∧ L = []
  | .tup l, v, L => ∃ a vs Ls, v = .ref a ∧ L = (a, .tup vs) :: Ls ∧ IsCL l vs Ls
  | .lst l, v, L => ∃ a vs Ls, v = .ref a ∧ L = (a, .lst vs) :: Ls ∧ IsCL l vs Ls
  | .scr _, _, _ => False
  | .ty n, v, L => v = .ty n ∧ L = []
  | .obj a, v, L => v = .ref a ∧ L = []
  | .ins C ns l, v, L => ∃ a dx vs Ls, v = .ref a ∧ L = (a, .ins C dx (ns.zip vs)) :: (dx, .own a) :: Ls ∧ IsCL l vs Ls
def IsCL : List D → List V → Op → Prop
  | [], vs, L => vs = [] ∧ L = []
  | d :: l, vs, L => ∃ v r L1 L2, vs = v :: r ∧ L = L1 ++ L2 ∧ IsC d v L1 ∧ IsCL l r L2
end
mutual
theorem IsC.is {K : PySem.W.Frag} {H : Hp} : ∀ (d : D) (v : V) (L : Op), IsC d v L → (∀ x ∈ L, H x.1 = some x.2) → Is K H d v
  | .non, _, _, h, _ => h.1
  | .bl _, _, _, h, _ => h.1
  | .int _, _, _, h, _ => h.1
  | .str _, _, _, h, _ => h.1
  | .tup l, _, _, ⟨a, vs, Ls, e, eL, h⟩, q => ⟨a, vs, e, .inl (.inl (q (a, .tup vs) (by rw [eL]; exact List.mem_cons_self))), IsCL.is l vs Ls h fun x hx => q x (by rw [eL]; exact List.mem_cons_of_mem _ hx)⟩
  | .lst l, _, _, ⟨a, vs, Ls, e, eL, h⟩, q => ⟨a, vs, e, q (a, .lst vs) (by rw [eL]; exact List.mem_cons_self), IsCL.is l vs Ls h fun x hx => q x (by rw [eL]; exact List.mem_cons_of_mem _ hx)⟩
  | .scr _, _, _, h, _ => h.elim
  | .ty _, _, _, h, _ => h.1
  | .obj _, _, _, h, _ => h.1
  | .ins C ns l, _, _, ⟨a, dx, vs, Ls, e, eL, h⟩, q => ⟨a, dx, vs, e, q (a, .ins C dx (ns.zip vs)) (by rw [eL]; exact List.mem_cons_self), IsCL.is l vs Ls h fun x hx => q x (by rw [eL]; exact List.mem_cons_of_mem _ (List.mem_cons_of_mem _ hx))⟩
theorem IsCL.is {K : PySem.W.Frag} {H : Hp} : ∀ (l : List D) (vs : List V) (L : Op), IsCL l vs L → (∀ x ∈ L, H x.1 = some x.2) → IsL K H l vs
  | [], _, _, h, _ => h.1
  | d :: l, _, _, ⟨v, r, L1, L2, e, eL, h1, h2⟩, q => ⟨v, r, e, IsC.is d v L1 h1 fun x hx => q x (by rw [eL]; exact List.mem_append_left _ hx), IsCL.is l r L2 h2 fun x hx => q x (by rw [eL]; exact List.mem_append_right _ hx)⟩
end
theorem IsCL.len : ∀ {l : List D} {vs : List V} {L : Op}, IsCL l vs L → vs.length = l.length
  | [], _, _, h => by rw [h.1] <;> rfl
  | _ :: _, _, _, ⟨v, r, L1, L2, e, eL, h1, h2⟩ => by rw [e, List.length_cons, List.length_cons, IsCL.len h2]
theorem IsCL.app : ∀ {l l' : List D} {vs us : List V} {L L' : Op}, IsCL l vs L → IsCL l' us L' → IsCL (l ++ l') (vs ++ us) (L ++ L')
  | [], _, _, _, _, _, h, h' => by rw [h.1, h.2]; exact h'
  | d :: l, _, _, _, _, _, ⟨v, r, L1, L2, e, eL, h1, h2⟩, h' => by
    rw [e, eL, List.append_assoc]
    exact ⟨v, r ++ _, L1, L2 ++ _, rfl, rfl, h1, IsCL.app h2 h'⟩
theorem IsCL.one {d : D} {v : V} {L : Op} (h : IsC d v L) : IsCL [d] [v] L := ⟨v, [], L, [], rfl, by simp, h, rfl, rfl⟩
theorem IsCL.cons {d : D} {v : V} {l : List D} {vs : List V} {L L' : Op} (h : IsC d v L) (h' : IsCL l vs L') : IsCL (d :: l) (v :: vs) (L ++ L') := ⟨v, vs, L, L', rfl, rfl, h, h'⟩
/-- numbers, texts, truth values, None -/
def D.sc : D → Bool
  | .non => true
  | .bl _ => true
  | .int _ => true
  | .str _ => true
  | .ty _ => true
  | .obj _ => true
  | _ => false
theorem Is.sc {K : PySem.W.Frag} {H : Hp} {d : D} {v : V} (h : Is K H d v) (e : d.sc = true) : IsC d v [] := by
  cases d <;> first | exact ⟨h, rfl⟩ | cases e
theorem Is.any {K : PySem.W.Frag} {H H' : Hp} {d : D} {v : V} (h : Is K H d v) (e : d.sc = true) : Is K H' d v := by
  cases d <;> first | exact h | cases e
theorem IsL.sc {K : PySem.W.Frag} {H : Hp} : ∀ {l : List D} {vs : List V}, IsL K H l vs → (∀ d ∈ l, d.sc = true) → IsCL l vs []
  | [], _, h, _ => ⟨h, rfl⟩
  | d :: l, _, ⟨v, r, e, h1, h2⟩, q => ⟨v, r, [], [], e, rfl, h1.sc (q d List.mem_cons_self), IsL.sc h2 fun x hx => q x (List.mem_cons_of_mem _ hx)⟩

/-! ### slots -/
inductive Sl where
  | no
  | im (d : D)
  | ow (l : List D)
  | cl (d : D)
abbrev Rho := List Sl
inductive EnR (K : PySem.W.Frag) (H : Hp) : Rho → L2.St → Op → Prop
  | nil : EnR K H [] [] []
  | no {ρ : Rho} {σ : L2.St} {L : Op} {x : Option V} : EnR K H ρ σ L → EnR K H (.no :: ρ) (x :: σ) L
  | im {ρ : Rho} {σ : L2.St} {L : Op} {d : D} {v : V} : Is K H d v → EnR K H ρ σ L → EnR K H (.im d :: ρ) (some v :: σ) L
  | ow {ρ : Rho} {σ : L2.St} {L : Op} {l : List D} {vs : List V} {p : Addr} : IsL K H l vs → EnR K H ρ σ L → EnR K H (.ow l :: ρ) (some (.ref p) :: σ) ((p, .lst vs) :: L)
  | cl {ρ : Rho} {σ : L2.St} {L Lc : Op} {d : D} {v : V} : IsC d v Lc → EnR K H ρ σ L → EnR K H (.cl d :: ρ) (some v :: σ) (Lc ++ L)
section
variable {K : PySem.W.Frag} {H H' : Hp} {ρ : Rho} {σ : L2.St} {L : Op}
theorem EnR.up (e : Same H H') (h : EnR K H ρ σ L) : EnR K H' ρ σ L := by
  induction h with
  | nil => exact .nil
  | no _ ih => exact .no ih
  | im h _ ih => exact .im (h.up e) ih
  | ow h _ ih => exact .ow (h.up e) ih
  | cl h _ ih => exact .cl h ih
theorem EnR.len (h : EnR K H ρ σ L) : σ.length = ρ.length := by
  induction h with
  | nil => rfl
  | no _ ih => simp [ih]
  | im _ _ ih => simp [ih]
  | ow _ _ ih => simp [ih]
  | cl _ _ ih => simp [ih]
theorem EnR.get (h : EnR K H ρ σ L) : ∀ {i : Nat} {d : D}, ρ[i]? = some (.im d) → ∃ v, σ[i]? = some (some v) ∧ Is K H d v := by
  induction h with
  | nil => intro i d e; simp at e
  | no _ ih | ow _ _ ih | cl _ _ ih =>
    intro i d e
    cases i with
    | zero => cases e
    | succ i => exact ih (by simpa using e)
  | im h _ ih =>
    intro i d e
    cases i with
    | zero =>
      cases e
      exact ⟨_, rfl, h⟩
    | succ i => exact ih (by simpa using e)
/-- slot i alone: its own part, and how it may be filled anew; g: what of L stands before it, behind it -/
theorem EnR.at_ (h : EnR K H ρ σ L) : ∀ {i : Nat} {s : Sl}, ρ[i]? = some s → ∃ x Ls L1 L2, σ[i]? = some x ∧ L = L1 ++ (Ls ++ L2) ∧ EnR K H [s] [x] Ls ∧
    ∀ H' s' x' Ls', Same H H' → EnR K H' [s'] [x'] Ls' → EnR K H' (ρ.set i s') (σ.set i x') (L1 ++ (Ls' ++ L2)) := by
  have put : ∀ {H' : Hp} {s' : Sl} {x' : Option V} {Ls' : Op} {ρ : Rho} {σ : L2.St} {L : Op}, EnR K H' [s'] [x'] Ls' → EnR K H' ρ σ L → EnR K H' (s' :: ρ) (x' :: σ) (Ls' ++ L) := by
    intro H' s' x' Ls' ρ σ L h1 h2
    cases h1 with
    | no h => cases h; exact .no h2
    | im i h => cases h; exact .im i h2
    | ow i h => cases h; exact .ow i h2
    | cl i h =>
      cases h
      rw [List.append_nil]
      exact .cl i h2
  induction h with
  | nil => intro i s e; simp at e
  | @no ρ σ L x h ih =>
    intro i s e
    cases i with
    | zero =>
      cases e
      exact ⟨x, [], [], L, rfl, rfl, .no .nil, fun H' s' x' Ls' s0 q => (show EnR K H' (s' :: ρ) (x' :: σ) (Ls' ++ L) from put q (h.up s0))⟩
    | succ i =>
      obtain ⟨y, Ls, L1, L2, h1, h2, h3, h4⟩ := ih (by simpa using e)
      exact ⟨y, Ls, L1, L2, by simpa using h1, h2, h3, fun H' s' x' Ls' s0 q => .no (h4 H' s' x' Ls' s0 q)⟩
  | @im ρ σ L d v iv h ih =>
    intro i s e
    cases i with
    | zero =>
      cases e
      exact ⟨_, [], [], L, rfl, rfl, .im iv .nil, fun H' s' x' Ls' s0 q => (show EnR K H' (s' :: ρ) (x' :: σ) (Ls' ++ L) from put q (h.up s0))⟩
    | succ i =>
      obtain ⟨y, Ls, L1, L2, h1, h2, h3, h4⟩ := ih (by simpa using e)
      exact ⟨y, Ls, L1, L2, by simpa using h1, h2, h3, fun H' s' x' Ls' s0 q => .im (iv.up s0) (h4 H' s' x' Ls' s0 q)⟩
  | @ow ρ σ L l vs p iv h ih =>
    intro i s e
    cases i with
    | zero =>
      cases e
      exact ⟨_, [(p, .lst vs)], [], L, rfl, rfl, .ow iv .nil, fun H' s' x' Ls' s0 q => (show EnR K H' (s' :: ρ) (x' :: σ) (Ls' ++ L) from put q (h.up s0))⟩
    | succ i =>
      obtain ⟨y, Ls, L1, L2, h1, h2, h3, h4⟩ := ih (by simpa using e)
      exact ⟨y, Ls, (p, .lst vs) :: L1, L2, by simpa using h1, by rw [h2] <;> rfl, h3, fun H' s' x' Ls' s0 q => .ow (iv.up s0) (h4 H' s' x' Ls' s0 q)⟩
  | @cl ρ σ L Lc d v iv h ih =>
    intro i s e
    cases i with
    | zero =>
      cases e
      refine ⟨_, Lc, [], L, rfl, rfl, ?_, fun H' s' x' Ls' s0 q => (show EnR K H' (s' :: ρ) (x' :: σ) (Ls' ++ L) from put q (h.up s0))⟩
      have := EnR.cl (K := K) (H := H) iv .nil
      rw [List.append_nil] at this
      exact this
    | succ i =>
      obtain ⟨y, Ls, L1, L2, h1, h2, h3, h4⟩ := ih (by simpa using e)
      refine ⟨y, Ls, Lc ++ L1, L2, by simpa using h1, by rw [h2, List.append_assoc], h3, fun H' s' x' Ls' s0 q => ?_⟩
      rw [List.append_assoc]
      exact .cl iv (h4 H' s' x' Ls' s0 q)
theorem EnR.start {l : List D} {vs : List V} (hl : IsL K H l vs) (n : Nat) : EnR K H (l.map .im ++ List.replicate n .no) (vs.map some ++ List.replicate n none) [] := by
  induction l generalizing vs with
  | nil =>
    rw [show vs = [] from hl]
    induction n with
    | zero => exact .nil
    | succ n ih => exact .no ih
  | cons d l ih =>
    obtain ⟨v, r, e, h1, h2⟩ := hl
    rw [e]
    exact .im h1 (ih h2)
end

/-- M: what others have open; T0: the heap at the def's entry; X: what is open beside the slots -/
structure EnX (K : PySem.W.Frag) (M : Op) (T0 H T : Hp) (σ : L2.St) (ρ : Rho) (X : Op) : Prop where
  ex : ∃ L, EnR K H ρ σ L ∧ Opn H T (X ++ (L ++ M)) ∧ ∀ x ∈ X ++ L, T0 x.1 = none
  t0 : Same T0 T
abbrev En (K : PySem.W.Frag) (M : Op) (T0 H T : Hp) (σ : L2.St) (ρ : Rho) : Prop := EnX K M T0 H T σ ρ []
section
variable {K : PySem.W.Frag} {M : Op} {T0 H H' T T' : Hp} {ρ : Rho} {σ : L2.St} {X X' : Op} {p : Addr} {o : HO}
theorem EnX.same (h : EnX K M T0 H T σ ρ X) : Same H T := let ⟨_, _, q, _⟩ := h.ex; q.same
theorem EnX.get (h : EnX K M T0 H T σ ρ X) {i : Nat} {d : D} (e : ρ[i]? = some (.im d)) : ∃ v, σ[i]? = some (some v) ∧ Is K H d v := let ⟨_, r, _⟩ := h.ex; r.get e
theorem EnX.len (h : EnX K M T0 H T σ ρ X) : σ.length = ρ.length := let ⟨_, r, _⟩ := h.ex; r.len
/-- a new object, known at once -/
theorem EnX.new (h : EnX K M T0 H T σ ρ X) (hp : T p = none) : Same H (upd H p o) ∧ EnX K M T0 (upd H p o) (upd T p o) σ ρ X := by
  obtain ⟨L, r, q, f⟩ := h.ex
  have s : Same H (upd H p o) := same_new (q.fresh hp)
  exact ⟨s, ⟨L, r.up s, q.new hp, f⟩, h.t0.trans (same_new hp)⟩
theorem EnX.opened (h : EnX K M T0 H T σ ρ X) (hp : T p = none) : EnX K M T0 H (upd T p o) σ ρ ((p, o) :: X) := by
  obtain ⟨L, r, q, f⟩ := h.ex
  refine ⟨⟨L, r, q.opened hp, fun x hx => ?_⟩, h.t0.trans (same_new hp)⟩
  rcases List.mem_cons.mp hx with rfl | hx
  · exact h.t0.free hp
  · exact f x hx
theorem EnX.close (h : EnX K M T0 H T σ ρ ((p, o) :: X)) : Same H (upd H p o) ∧ EnX K M T0 (upd H p o) T σ ρ X := by
  obtain ⟨L, r, q, f⟩ := h.ex
  obtain ⟨s, q'⟩ := Opn.close q
  exact ⟨s, ⟨L, r.up s, q', fun x hx => f x (List.mem_cons_of_mem _ hx)⟩, h.t0⟩
theorem EnX.write {o' : HO} (h : EnX K M T0 H T σ ρ ((p, o) :: X)) : EnX K M T0 H (upd T p o') σ ρ ((p, o') :: X) := by
  obtain ⟨L, r, q, f⟩ := h.ex
  refine ⟨⟨L, r, q.write, fun x hx => ?_⟩, fun b u e => ?_⟩
  · rcases List.mem_cons.mp hx with rfl | hx
    · exact f (p, o) List.mem_cons_self
    · exact f x (List.mem_cons_of_mem _ hx)
  · rw [upd_ne (ne_of_none e (f (p, o) List.mem_cons_self))]
    exact h.t0 b u e
theorem EnX.at_ (h : EnX K M T0 H T σ ρ ((p, o) :: X)) : T p = some o := let ⟨_, _, q, _⟩ := h.ex; q.at_ _ List.mem_cons_self
theorem EnX.sub (h : EnX K M T0 H T σ ρ X) (e : List.Sublist X' X) : EnX K M T0 H T σ ρ X' := by
  obtain ⟨L, r, q, f⟩ := h.ex
  exact ⟨⟨L, r, q.sub (e.append (List.Sublist.refl _)), fun x hx => f x ((e.append (List.Sublist.refl L)).subset hx)⟩, h.t0⟩
theorem EnX.perm (h : EnX K M T0 H T σ ρ X) (e : List.Perm X X') : EnX K M T0 H T σ ρ X' := by
  obtain ⟨L, r, q, f⟩ := h.ex
  exact ⟨⟨L, r, q.perm (e.append_right _), fun x hx => f x ((e.append_right L).mem_iff.mpr hx)⟩, h.t0⟩
/-- a closed tree is known from now on -/
theorem EnX.closeAll : ∀ {Lc : Op} {H : Hp}, EnX K M T0 H T σ ρ (Lc ++ X) → ∃ H', Same H H' ∧ EnX K M T0 H' T σ ρ X ∧ ∀ x ∈ Lc, H' x.1 = some x.2
  | [], H, h => ⟨H, Same.refl _, h, fun _ hx => by cases hx⟩
  | (p, o) :: r, H, h => by
    obtain ⟨s1, h1⟩ := EnX.close h
    obtain ⟨H', s2, h2, h3⟩ := EnX.closeAll h1
    refine ⟨H', s1.trans s2, h2, fun x hx => ?_⟩
    rcases List.mem_cons.mp hx with rfl | hx
    · exact s2 _ _ upd_same
    · exact h3 x hx
theorem EnX.frame (h : EnX K M T0 H T σ ρ X) : Opn H T M := by
  obtain ⟨L, r, q, f⟩ := h.ex
  exact q.sub ((List.sublist_append_right _ _).trans (List.sublist_append_right _ _))
theorem sl_one {s : Sl} {x : Option V} {d : D} {v : V} (h : Is K H d v) : EnR K H [.im d] [some v] [] := .im h .nil
/-- slot i filled anew by Ls', which stood in X -/
theorem EnX.fill {i : Nat} {s' : Sl} {x' : Option V} {Ls' : Op} (h : EnX K M T0 H T σ ρ (Ls' ++ X)) (hs : EnR K H [s'] [x'] Ls') (hi : i < ρ.length) : EnX K M T0 H T (σ.set i x') (ρ.set i s') X := by
  obtain ⟨L, r, q, f⟩ := h.ex
  obtain ⟨x, Ls, L1, L2, h1, h2, h3, h4⟩ := r.at_ (List.getElem?_eq_getElem hi)
  subst h2
  have sb : List.Sublist (Ls' ++ (X ++ ((L1 ++ L2) ++ M))) ((Ls' ++ X) ++ ((L1 ++ (Ls ++ L2)) ++ M)) := by
    rw [show (Ls' ++ X) ++ ((L1 ++ (Ls ++ L2)) ++ M) = Ls' ++ (X ++ ((L1 ++ (Ls ++ L2)) ++ M)) from List.append_assoc _ _ _]
    exact (List.Sublist.refl _).append ((List.Sublist.refl _).append (((List.Sublist.refl _).append (List.sublist_append_right _ _)).append (List.Sublist.refl _)))
  have pm : List.Perm (Ls' ++ (X ++ ((L1 ++ L2) ++ M))) (X ++ ((L1 ++ (Ls' ++ L2)) ++ M)) := by
    have e1 : Ls' ++ (X ++ ((L1 ++ L2) ++ M)) = (Ls' ++ (X ++ L1)) ++ (L2 ++ M) := by simp [List.append_assoc]
    have e2 : X ++ ((L1 ++ (Ls' ++ L2)) ++ M) = ((X ++ L1) ++ Ls') ++ (L2 ++ M) := by simp [List.append_assoc]
    rw [e1, e2]
    exact List.perm_append_comm.append_right _
  refine ⟨⟨_, h4 H s' x' Ls' (Same.refl _) hs, (q.sub sb).perm pm, fun z hz => ?_⟩, h.t0⟩
  refine f z ?_
  simp only [List.mem_append] at hz ⊢
  rcases hz with a | a | a | a
  · exact .inl (.inr a)
  · exact .inr (.inl a)
  · exact .inl (.inl a)
  · exact .inr (.inr (.inr a))
theorem set_out {α : Type} {l : List α} {i : Nat} {x : α} (h : l.length ≤ i) : l.set i x = l := List.set_eq_of_length_le h
theorem EnX.set {i : Nat} {d : D} {v : V} (h : EnX K M T0 H T σ ρ X) (hd : Is K H d v) : EnX K M T0 H T (σ.set i (some v)) (ρ.set i (.im d)) X := by
  by_cases hi : i < ρ.length
  · exact EnX.fill (Ls' := []) h (.im hd .nil) hi
  · rw [show σ.set i (some v) = σ from set_out (by have := h.len; omega), show ρ.set i (.im d) = ρ from set_out (by omega)]
    exact h
theorem EnX.drop {i : Nat} {x : Option V} (h : EnX K M T0 H T σ ρ X) : EnX K M T0 H T (σ.set i x) (ρ.set i .no) X := by
  by_cases hi : i < ρ.length
  · exact EnX.fill (Ls' := []) h (.no .nil) hi
  · rw [show σ.set i x = σ from set_out (by have := h.len; omega), show ρ.set i .no = ρ from set_out (by omega)]
    exact h
theorem EnX.setO {i : Nat} {l : List D} {vs : List V} (h : EnX K M T0 H T σ ρ ((p, .lst vs) :: X)) (hi : i < ρ.length) (hd : IsL K H l vs) : EnX K M T0 H T (σ.set i (some (.ref p))) (ρ.set i (.ow l)) X :=
  EnX.fill (Ls' := [(p, .lst vs)]) h (.ow hd .nil) hi
theorem EnX.setC {i : Nat} {d : D} {v : V} {Lc : Op} (h : EnX K M T0 H T σ ρ (Lc ++ X)) (hi : i < ρ.length) (hd : IsC d v Lc) : EnX K M T0 H T (σ.set i (some v)) (ρ.set i (.cl d)) X := by
  have q := EnR.cl (K := K) (H := H) hd .nil
  rw [List.append_nil] at q
  exact EnX.fill (Ls' := Lc) h q hi
theorem set_self : ∀ {α : Type} {l : List α} {i : Nat} {x : α}, l[i]? = some x → l.set i x = l
  | _, [], _, _, h => by simp at h
  | _, a :: l, 0, x, h => by
    have e : a = x := Option.some.inj h
    rw [e] <;> rfl
  | _, a :: l, i + 1, x, h => by
    show a :: l.set i x = a :: l
    rw [set_self (by simpa using h)]
theorem get_some {α : Type} {l : List α} {i : Nat} (h : i < l.length) : ∃ x, l[i]? = some x := ⟨l[i], List.getElem?_eq_getElem h⟩
/-- slot i emptied: its part stands in X -/
theorem EnX.take {i : Nat} {s : Sl} (h : EnX K M T0 H T σ ρ X) (e : ρ[i]? = some s) : ∃ x Ls, σ[i]? = some x ∧ EnR K H [s] [x] Ls ∧ EnX K M T0 H T σ (ρ.set i .no) (Ls ++ X) := by
  obtain ⟨L, r, q, f⟩ := h.ex
  obtain ⟨x, Ls, L1, L2, h1, h2, h3, h4⟩ := r.at_ e
  subst h2
  have q2 := h4 H .no x [] (Same.refl _) (.no .nil)
  rw [set_self h1] at q2
  have pm : List.Perm (X ++ ((L1 ++ (Ls ++ L2)) ++ M)) ((Ls ++ X) ++ ((L1 ++ ([] ++ L2)) ++ M)) := by
    have e1 : X ++ ((L1 ++ (Ls ++ L2)) ++ M) = ((X ++ L1) ++ Ls) ++ (L2 ++ M) := by simp [List.append_assoc]
    have e2 : (Ls ++ X) ++ ((L1 ++ ([] ++ L2)) ++ M) = (Ls ++ (X ++ L1)) ++ (L2 ++ M) := by simp [List.append_assoc]
    rw [e1, e2]
    exact List.perm_append_comm.append_right _
  refine ⟨x, Ls, h1, h3, ⟨_, q2, q.perm pm, fun z hz => f z ?_⟩, h.t0⟩
  simp only [List.mem_append, List.nil_append] at hz ⊢
  rcases hz with (a | a) | a | a
  · exact .inr (.inr (.inl a))
  · exact .inl a
  · exact .inr (.inl a)
  · exact .inr (.inr (.inr a))
theorem EnR.ow1 {l : List D} {x : Option V} {Ls : Op} (h : EnR K H [.ow l] [x] Ls) : ∃ p vs, x = some (.ref p) ∧ Ls = [(p, .lst vs)] ∧ IsL K H l vs := by
  cases h with
  | ow i h => cases h; exact ⟨_, _, rfl, rfl, i⟩
theorem EnR.cl1 {d : D} {x : Option V} {Ls : Op} (h : EnR K H [.cl d] [x] Ls) : ∃ v, x = some v ∧ IsC d v Ls := by
  cases h with
  | cl i h =>
    cases h
    rw [List.append_nil]
    exact ⟨_, rfl, i⟩
/-- the open list at slot i -/
theorem EnX.own {i : Nat} {l : List D} (h : EnX K M T0 H T σ ρ X) (e : ρ[i]? = some (.ow l)) : ∃ p vs, σ[i]? = some (some (.ref p)) ∧ T p = some (.lst vs) ∧ IsL K H l vs ∧
    (∀ l' vs', IsL K H l' vs' → EnX K M T0 H (upd T p (.lst vs')) σ (ρ.set i (.ow l')) X) ∧
    (Same H (upd H p (.lst vs)) ∧ EnX K M T0 (upd H p (.lst vs)) T σ (ρ.set i (.im (.lst l))) X) ∧
    EnX K M T0 H T σ (ρ.set i .no) ((p, .lst vs) :: X) := by
  obtain ⟨x, Ls, h1, h2, h3⟩ := h.take e
  obtain ⟨p, vs, rfl, rfl, h4⟩ := h2.ow1
  have hi : i < (ρ.set i .no).length := by rw [List.length_set]; exact (List.getElem?_eq_some_iff.mp e).1
  refine ⟨p, vs, h1, EnX.at_ h3, h4, fun l' vs' hl => ?_, ?_, h3⟩
  · have q := EnX.setO (i := i) (EnX.write (o' := .lst vs') h3) hi hl
    rw [set_self h1, List.set_set] at q
    exact q
  · obtain ⟨s, q⟩ := EnX.close h3
    have q2 := q.set (i := i) (d := .lst l) (v := .ref p) ⟨p, vs, rfl, upd_same, h4.up s⟩
    rw [set_self h1, List.set_set] at q2
    exact ⟨s, q2⟩
end
end FS
set_option Elab.async false
set_option linter.all false
set_option maxRecDepth 100000
set_option maxHeartbeats 4000000
namespace FS
open PySem PySem.Spec PyProof.Rows L2

/-! ### what an expression is worth -/
section
variable (K : PySem.W.Frag)
def EvD (te : TE) (ρ : Rho) (d : D) : Prop := ∀ (M : Op) (T0 H T : Hp) (σ : L2.St) (X : Op) (Q : VK), EnX K M T0 H T σ ρ X → (∀ v H' T', Same H H' → Same T T' → EnX K M T0 H' T' σ ρ X → Is K H' d v → Q v T') → te σ T Q
/-- a new list -/
def EvO (te : TE) (ρ : Rho) (l : List D) : Prop := ∀ (M : Op) (T0 H T : Hp) (σ : L2.St) (X : Op) (Q : VK), EnX K M T0 H T σ ρ X → (∀ p vs H' T', Same H H' → Same T T' → EnX K M T0 H' T' σ ρ ((p, .lst vs) :: X) → IsL K H' l vs → Q (.ref p) T') → te σ T Q
def EvT (tt : TT) (ρ : Rho) (b : Bool) : Prop := ∀ (M : Op) (T0 H T : Hp) (σ : L2.St) (X : Op) (Q : Bool → Hp → Prop), EnX K M T0 H T σ ρ X → (∀ H' T', Same H H' → Same T T' → EnX K M T0 H' T' σ ρ X → Q b T') → tt σ T Q
def EvA (ta : TA) (ρ : Rho) (ds : List D) : Prop := ∀ (M : Op) (T0 H T : Hp) (σ : L2.St) (X : Op) (Q : List V → Hp → Prop), EnX K M T0 H T σ ρ X → (∀ vs H' T', Same H H' → Same T T' → EnX K M T0 H' T' σ ρ X → IsL K H' ds vs → Q vs T') → ta σ T Q
/-- operations on values -/
def RvD (r : R2) (x y z : D) : Prop := ∀ (H T : Hp) (vx vy : V) (Q : VK), Same H T → Is K H x vx → Is K H y vy → (∀ v, Is K H z v → Q v T) → r vx vy T Q
def RuD (r : V → Hp → VK → Prop) (x z : D) : Prop := ∀ (H T : Hp) (vx : V) (Q : VK), Same H T → Is K H x vx → (∀ v, Is K H z v → Q v T) → r vx T Q
def RcD (r : List V → Hp → VK → Prop) (ds : List D) (z : D) : Prop := ∀ (H T : Hp) (vs : List V) (Q : VK), Same H T → IsL K H ds vs → (∀ v, Is K H z v → Q v T) → r vs T Q
/-- a call that makes a new list -/
def RcO (r : List V → Hp → VK → Prop) (ds l : List D) : Prop := ∀ (H T : Hp) (vs : List V) (Q : VK), Same H T → IsL K H ds vs → (∀ p us, T p = none → IsL K H l us → Q (.ref p) (upd T p (.lst us))) → r vs T Q
/-- an operation that makes a new list -/
def RvO (r : R2) (x y : D) (l : List D) : Prop := ∀ (H T : Hp) (vx vy : V) (Q : VK), Same H T → Is K H x vx → Is K H y vy → (∀ p us, T p = none → IsL K H l us → Q (.ref p) (upd T p (.lst us))) → r vx vy T Q
end

section
variable {K : PySem.W.Frag} {ρ : Rho} {ta tb te tc : TE} {t u : TT} {x y z d : D} {l : List D} {ds : List D} {tr : TA} {r : R2}
theorem EvD.is (h : EvD K te ρ x) (e : x = y) : EvD K te ρ y := e ▸ h
theorem EvO.is {l' : List D} (h : EvO K te ρ l) (e : l = l') : EvO K te ρ l' := e ▸ h
theorem EvT.is {a b : Bool} (h : EvT K t ρ a) (e : a = b) : EvT K t ρ b := e ▸ h
theorem ev_var {i : Nat} (e : ρ[i]? = some (.im d)) : EvD K (tVar i) ρ d := fun M T0 H T σ X Q h q => by
  obtain ⟨v, h1, h2⟩ := h.get e
  exact ⟨v, h1, q v H T (Same.refl _) (Same.refl _) h h2⟩
theorem ev_c {v : V} (hv : ∀ H, Is K H d v) : EvD K (tC v) ρ d := fun M T0 H T σ X Q h q => q v H T (Same.refl _) (Same.refl _) h (hv H)
theorem ev_int {i : Int} : EvD K (tC (.int i)) ρ (.int i) := ev_c fun _ => rfl
theorem ev_bl {b : Bool} : EvD K (tC (.bl b)) ρ (.bl b) := ev_c fun _ => rfl
theorem ev_non : EvD K (tC .non) ρ .non := ev_c fun _ => rfl
theorem ev_str {s : Str} : EvD K (tC (.str s)) ρ (.str s) := ev_c fun _ => rfl
/-- a new list, known from now on -/
theorem ev_fz (h : EvO K te ρ l) : EvD K te ρ (.lst l) := fun M T0 H T σ X Q e q => h M T0 H T σ X Q e fun p vs H' T' s t e' hl => by
  obtain ⟨s2, e2⟩ := e'.close
  exact q (.ref p) _ T' (s.trans s2) t e2 ⟨p, vs, rfl, upd_same, hl.up s2⟩
theorem ev_op (ha : EvD K ta ρ x) (hb : EvD K tb ρ y) (hr : RvD K r x y z) : EvD K (tOp r ta tb) ρ z := fun M T0 H T σ X Q e q =>
  ha M T0 H T σ X _ e fun v H1 T1 s1 t1 e1 i1 => hb M T0 H1 T1 σ X _ e1 fun w H2 T2 s2 t2 e2 i2 => hr H2 T2 v w Q e2.same (i1.up s2) i2 fun u iu => q u H2 T2 (s1.trans s2) (t1.trans t2) e2 iu
theorem ev_un {r : V → Hp → VK → Prop} (ha : EvD K ta ρ x) (hr : RuD K r x z) : EvD K (tUn r ta) ρ z := fun M T0 H T σ X Q e q =>
  ha M T0 H T σ X _ e fun v H1 T1 s1 t1 e1 i1 => hr H1 T1 v Q e1.same i1 fun u iu => q u H1 T1 s1 t1 e1 iu
theorem ev_opO (ha : EvD K ta ρ x) (hb : EvD K tb ρ y) (hr : RvO K r x y l) : EvO K (tOp r ta tb) ρ l := fun M T0 H T σ X Q e q =>
  ha M T0 H T σ X _ e fun v H1 T1 s1 t1 e1 i1 => hb M T0 H1 T1 σ X _ e1 fun w H2 T2 s2 t2 e2 i2 => hr H2 T2 v w Q e2.same (i1.up s2) i2 fun p us hp iu => q p us H2 _ (s1.trans s2) ((t1.trans t2).trans (same_new hp)) (e2.opened hp) iu
theorem ev_cb {r : List V → Hp → VK → Prop} (ha : EvA K tr ρ ds) (hr : RcD K r ds z) : EvD K (tCB r tr) ρ z := fun M T0 H T σ X Q e q =>
  ha M T0 H T σ X _ e fun vs H1 T1 s1 t1 e1 i1 => hr H1 T1 vs Q e1.same i1 fun u iu => q u H1 T1 s1 t1 e1 iu
theorem ev_cbO {r : List V → Hp → VK → Prop} (ha : EvA K tr ρ ds) (hr : RcO K r ds l) : EvO K (tCB r tr) ρ l := fun M T0 H T σ X Q e q =>
  ha M T0 H T σ X _ e fun vs H1 T1 s1 t1 e1 i1 => hr H1 T1 vs Q e1.same i1 fun p us hp iu => q p us H1 _ s1 (t1.trans (same_new hp)) (e1.opened hp) iu
theorem ea_nil : EvA K tNil ρ [] := fun M T0 H T σ X Q e q => q [] H T (Same.refl _) (Same.refl _) e rfl
theorem ea_cons (ha : EvD K ta ρ x) (hr : EvA K tr ρ ds) : EvA K (tCons ta tr) ρ (x :: ds) := fun M T0 H T σ X Q e q =>
  ha M T0 H T σ X _ e fun v H1 T1 s1 t1 e1 i1 => hr M T0 H1 T1 σ X _ e1 fun vs H2 T2 s2 t2 e2 i2 => q (v :: vs) H2 T2 (s1.trans s2) (t1.trans t2) e2 (.cons (i1.up s2) i2)
theorem ev_tup (ha : EvA K tr ρ ds) (hl : ds.length ≤ 1000) : EvD K (tTup tr) ρ (.tup ds) := fun M T0 H T σ X Q e q =>
  ha M T0 H T σ X _ e fun vs H1 T1 s1 t1 e1 i1 => ⟨by rw [i1.len]; exact Nat.le_trans hl (by decide), fun p hp => by
    obtain ⟨s2, e2⟩ := e1.new (o := .tup vs) hp
    exact q (.ref p) _ _ (s1.trans s2) (t1.trans (same_new hp)) e2 ⟨p, vs, rfl, .inl (.inl upd_same), i1.up s2⟩⟩
theorem evo_lst (ha : EvA K tr ρ ds) (hl : ds.length ≤ 1000) : EvO K (tLst tr) ρ ds := fun M T0 H T σ X Q e q =>
  ha M T0 H T σ X _ e fun vs H1 T1 s1 t1 e1 i1 => ⟨by rw [i1.len]; exact Nat.le_trans hl (by decide), fun p hp => q p vs H1 _ s1 (t1.trans (same_new hp)) (e1.opened hp) i1⟩
/-! tests -/
theorem et_test {b : Bool} (h : EvD K te ρ (.bl b)) : EvT K (tTest te) ρ b := fun M T0 H T σ X Q e q =>
  h M T0 H T σ X _ e fun v H1 T1 s1 t1 e1 i1 => ⟨b, i1, q H1 T1 s1 t1 e1⟩
theorem et_B {b : Bool} (h : EvD K te ρ (.bl b)) : EvT K (tB te) ρ b := fun M T0 H T σ X Q e q =>
  h M T0 H T σ X _ e fun v H1 T1 s1 t1 e1 i1 => ⟨b, i1, q H1 T1 s1 t1 e1⟩
theorem et_and {a b : Bool} (h1 : EvT K t ρ a) (h2 : a = true → EvT K u ρ b) : EvT K (tAnd t u) ρ (a && b) := fun M T0 H T σ X Q e q =>
  h1 M T0 H T σ X _ e fun H1 T1 s1 t1 e1 => by
    cases a with
    | true =>
      show u σ T1 Q
      exact h2 rfl M T0 H1 T1 σ X Q e1 fun H2 T2 s2 t2 e2 => q H2 T2 (s1.trans s2) (t1.trans t2) e2
    | false =>
      show Q false T1
      exact q H1 T1 s1 t1 e1
theorem et_or {a b : Bool} (h1 : EvT K t ρ a) (h2 : a = false → EvT K u ρ b) : EvT K (tOr t u) ρ (a || b) := fun M T0 H T σ X Q e q =>
  h1 M T0 H T σ X _ e fun H1 T1 s1 t1 e1 => by
    cases a with
    | true =>
      show Q true T1
      exact q H1 T1 s1 t1 e1
    | false =>
      show u σ T1 Q
      exact h2 rfl M T0 H1 T1 σ X Q e1 fun H2 T2 s2 t2 e2 => q H2 T2 (s1.trans s2) (t1.trans t2) e2
theorem et_not {a : Bool} (h1 : EvT K t ρ a) : EvT K (tNot t) ρ (!a) := fun M T0 H T σ X Q e q => h1 M T0 H T σ X _ e fun H1 T1 s1 t1 e1 => q H1 T1 s1 t1 e1
theorem et_yes : EvT K tYes ρ true := fun M T0 H T σ X Q e q => q H T (Same.refl _) (Same.refl _) e
theorem ev_andV {a b : Bool} (h1 : EvD K ta ρ (.bl a)) (h2 : a = true → EvD K tb ρ (.bl b)) : EvD K (tAndV ta tb) ρ (.bl (a && b)) := fun M T0 H T σ X Q e q =>
  h1 M T0 H T σ X _ e fun v H1 T1 s1 t1 e1 i1 => ⟨a, i1, by
    cases a with
    | true =>
      show tb σ T1 Q
      exact h2 rfl M T0 H1 T1 σ X Q e1 fun w H2 T2 s2 t2 e2 i2 => q w H2 T2 (s1.trans s2) (t1.trans t2) e2 i2
    | false =>
      show Q (.bl false) T1
      exact q _ H1 T1 s1 t1 e1 rfl⟩
theorem ev_orV {a b : Bool} (h1 : EvD K ta ρ (.bl a)) (h2 : a = false → EvD K tb ρ (.bl b)) : EvD K (tOrV ta tb) ρ (.bl (a || b)) := fun M T0 H T σ X Q e q =>
  h1 M T0 H T σ X _ e fun v H1 T1 s1 t1 e1 i1 => ⟨a, i1, by
    cases a with
    | true =>
      show Q (.bl true) T1
      exact q _ H1 T1 s1 t1 e1 rfl
    | false =>
      show tb σ T1 Q
      exact h2 rfl M T0 H1 T1 σ X Q e1 fun w H2 T2 s2 t2 e2 i2 => q w H2 T2 (s1.trans s2) (t1.trans t2) e2 i2⟩
theorem ev_notV {a : Bool} (h1 : EvD K ta ρ (.bl a)) : EvD K (tNotV ta) ρ (.bl (!a)) := fun M T0 H T σ X Q e q =>
  h1 M T0 H T σ X _ e fun v H1 T1 s1 t1 e1 i1 => ⟨a, i1, q _ H1 T1 s1 t1 e1 rfl⟩
theorem ev_if {b : Bool} (h : EvT K t ρ b) (h1 : b = true → EvD K ta ρ x) (h2 : b = false → EvD K tb ρ x) : EvD K (tIf t ta tb) ρ x := fun M T0 H T σ X Q e q =>
  h M T0 H T σ X _ e fun H1 T1 s1 t1 e1 => by
    cases b with
    | true =>
      show ta σ T1 Q
      exact h1 rfl M T0 H1 T1 σ X Q e1 fun w H2 T2 s2 t2 e2 i2 => q w H2 T2 (s1.trans s2) (t1.trans t2) e2 i2
    | false =>
      show tb σ T1 Q
      exact h2 rfl M T0 H1 T1 σ X Q e1 fun w H2 T2 s2 t2 e2 i2 => q w H2 T2 (s1.trans s2) (t1.trans t2) e2 i2

/-! operations on ints and others -/
theorem rv_I0 {g : Int → Int → V} {i j : Int} (hz : ∀ H, Is K H z (g i j)) : RvD K (rI0 g) (.int i) (.int j) z := fun H T vx vy Q s h1 h2 q => ⟨i, j, h1, h2, q _ (hz H)⟩
theorem rv_I {C : Int → Int → Prop} {g : Int → Int → V} {i j : Int} (hc : C i j) (hz : ∀ H, Is K H z (g i j)) : RvD K (rI C g) (.int i) (.int j) z := fun H T vx vy Q s h1 h2 q => ⟨i, j, h1, h2, hc, q _ (hz H)⟩
theorem ru_I {g : Int → V} {i : Int} (hz : ∀ H, Is K H z (g i)) : RuD K (rU g) (.int i) z := fun H T vx Q s h1 q => ⟨i, h1, q _ (hz H)⟩
theorem rv_eqI {i j : Int} : RvD K rEq (.int i) (.int j) (.bl (decide (i = j))) := fun H T vx vy Q s h1 h2 q => by
  rw [show vx = V.int i from h1, show vy = V.int j from h2]
  exact ⟨rfl, q _ (by rw [dec_int]; exact congrArg V.bl (Bool.beq_eq_decide_eq i j))⟩
theorem rv_neI {i j : Int} : RvD K rNe (.int i) (.int j) (.bl (!decide (i = j))) := fun H T vx vy Q s h1 h2 q => by
  rw [show vx = V.int i from h1, show vy = V.int j from h2]
  exact ⟨rfl, q _ (by rw [dec_int]; exact congrArg (fun b => V.bl (!b)) (Bool.beq_eq_decide_eq i j))⟩
theorem rv_eqS {i j : Str} : RvD K rEq (.str i) (.str j) (.bl (decide (i = j))) := fun H T vx vy Q s h1 h2 q => by
  rw [show vx = V.str i from h1, show vy = V.str j from h2]
  refine ⟨rfl, q _ ?_⟩
  show V.bl (decide (V.str i = V.str j)) = V.bl (decide (i = j))
  by_cases e : i = j
  · rw [decide_eq_true e, decide_eq_true (by rw [e])]
  · rw [decide_eq_false e, decide_eq_false (fun z => e (V.str.inj z))]
theorem rv_neS {i j : Str} : RvD K rNe (.str i) (.str j) (.bl (!decide (i = j))) := fun H T vx vy Q s h1 h2 q => by
  rw [show vx = V.str i from h1, show vy = V.str j from h2]
  refine ⟨rfl, q _ ?_⟩
  show V.bl (!decide (V.str i = V.str j)) = V.bl (!decide (i = j))
  by_cases e : i = j
  · rw [decide_eq_true e, decide_eq_true (by rw [e])]
  · rw [decide_eq_false e, decide_eq_false (fun z => e (V.str.inj z))]
/-- is None -/
def isNon : D → Bool
  | .non => true
  | _ => false
theorem isNon_ok {H : Hp} {v : V} (h : Is K H x v) : decide (v = .non) = isNon x := by
  cases x with
  | non => rw [show v = V.non from h] <;> rfl
  | bl b => rw [show v = V.bl b from h] <;> rfl
  | int b => rw [show v = V.int b from h] <;> rfl
  | str b => rw [show v = V.str b from h] <;> rfl
  | tup l => obtain ⟨a, vs, rfl, _⟩ := h; rfl
  | lst l => obtain ⟨a, vs, rfl, _⟩ := h; rfl
  | scr l => obtain ⟨a, rfl, _⟩ := h; rfl
  | ty n => rw [show v = V.ty n from h] <;> rfl
  | obj a => rw [show v = V.ref a from h] <;> rfl
  | ins C ns l => obtain ⟨a, dx, vs, rfl, _⟩ := h; rfl
theorem rv_isN : RvD K (fun x y H Q => y = .non ∧ Q (.bl (decide (x = .non))) H) x .non (.bl (isNon x)) := fun H T vx vy Q s h1 h2 q => ⟨h2, q _ (congrArg V.bl (isNon_ok h1))⟩
theorem rv_notN : RvD K (fun x y H Q => y = .non ∧ Q (.bl (!decide (x = .non))) H) x .non (.bl (!isNon x)) := fun H T vx vy Q s h1 h2 q => ⟨h2, q _ (congrArg (fun b => V.bl (!b)) (isNon_ok h1))⟩
theorem atI_is {H : Hp} {vs : List V} {i : Int} (h : IsL K H l vs) (e : atI l i = some d) : ∃ v, atI vs i = some v ∧ Is K H d v := by
  unfold atI at e ⊢
  rw [h.len]
  cases q : ixN l.length i with
  | none => rw [q] at e; cases e
  | some j =>
    rw [q] at e
    exact h.get (i := j) e
theorem at_nat {j : Nat} (h : l[j]? = some d) : atI l (j : Int) = some d := atI_nat h
theorem rv_ixL {i : Int} (e : atI l i = some d) : RvD K (rIxL K) (.lst l) (.int i) d := fun H T vx vy Q s ⟨a, vs, h0, h1, h2⟩ h3 q => by
  obtain ⟨v, e1, e2⟩ := atI_is h2 e
  exact ⟨a, vs, i, v, h0, h3, .inl (.inl (s _ _ h1)), e1, q v e2⟩
theorem rv_ixT {i : Int} (e : atI l i = some d) : RvD K (rIxT K) (.tup l) (.int i) d := fun H T vx vy Q s ⟨a, vs, h0, h1, h2⟩ h3 q => by
  obtain ⟨v, e1, e2⟩ := atI_is h2 e
  exact ⟨a, vs, i, v, h0, h3, same_t s h1, e1, q v e2⟩
theorem rv_ixC {ns : List Int} {i n : Int} (e : atI ns i = some n) : RvD K (rIxL K) (.scr ns) (.int i) (.int n) := fun H T vx vy Q s ⟨a, h0, h1⟩ h3 q => by
  refine ⟨a, ns.map V.int, i, .int n, h0, h3, s.seq h1, ?_, q _ rfl⟩
  unfold atI at e ⊢
  rw [List.length_map]
  cases q : ixN ns.length i with
  | none => rw [q] at e; cases e
  | some j =>
    rw [q] at e
    have e : ns[j]? = some n := e
    show (ns.map V.int)[j]? = _
    rw [List.getElem?_map, e]
    rfl
theorem rv_ixxL {i : Int} (e : atI l i = some d) : RvD K (rIx K) (.lst l) (.int i) d := fun H T vx vy Q s h1 h2 q => .inl (rv_ixL e H T vx vy Q s h1 h2 q)
theorem rv_ixxT {i : Int} (e : atI l i = some d) : RvD K (rIx K) (.tup l) (.int i) d := fun H T vx vy Q s h1 h2 q => .inr (.inl (rv_ixT e H T vx vy Q s h1 h2 q))
theorem rv_ixxC {ns : List Int} {i n : Int} (e : atI ns i = some n) : RvD K (rIx K) (.scr ns) (.int i) (.int n) := fun H T vx vy Q s h1 h2 q => .inl (rv_ixC e H T vx vy Q s h1 h2 q)
/-- an open list's item -/
theorem ev_ixO {i : Nat} {k : Int} (e : ρ[i]? = some (.ow l)) (hb : EvD K tb ρ (.int k)) (ha : atI l k = some d) : EvD K (tOp (rIx K) (tVar i) tb) ρ d := fun M T0 H T σ X Q h q => by
  obtain ⟨p, vs, h1, h2, h4, _⟩ := h.own e
  refine ⟨.ref p, h1, hb M T0 H T σ X _ h fun w H2 T2 s2 t2 e2 i2 => ?_⟩
  obtain ⟨p', vs', g1, g2, g4, _⟩ := e2.own e
  rw [h1] at g1
  cases g1
  obtain ⟨v, e3, e4⟩ := atI_is g4 ha
  exact .inl ⟨p, vs', k, v, rfl, i2, .inl (.inl g2), e3, q v H2 T2 s2 t2 e2 e4⟩
/-- len -/
abbrev rLen (K : PySem.W.Frag) : List V → Hp → VK → Prop := fun xs H Q => ∃ p ys, xs = [.ref p] ∧ (SqL K H p ys ∨ SqT K H p ys) ∧ Q (.int ys.length) H
theorem isL_one {H : Hp} {vs : List V} (h : IsL K H [d] vs) : ∃ v, vs = [v] ∧ Is K H d v := by
  obtain ⟨v, r, e, h1, h2⟩ := h
  rw [e, show r = [] from h2]
  exact ⟨v, rfl, h1⟩
theorem isL_two {H : Hp} {vs : List V} {d' : D} (h : IsL K H [d, d'] vs) : ∃ v w, vs = [v, w] ∧ Is K H d v ∧ Is K H d' w := by
  obtain ⟨v, r, e, h1, h2⟩ := h
  obtain ⟨w, e2, h3⟩ := isL_one h2
  rw [e, e2]
  exact ⟨v, w, rfl, h1, h3⟩
theorem rc_lenL : RcD K (rLen K) [.lst l] (.int (l.length : Int)) := fun H T vs Q s h q => by
  obtain ⟨v, rfl, a, us, rfl, h1, h2⟩ := isL_one h
  exact ⟨a, us, rfl, .inl (.inl (.inl (s _ _ h1))), q _ (by rw [h2.len]; exact (rfl : V.int _ = V.int _))⟩
theorem rc_lenT : RcD K (rLen K) [.tup l] (.int (l.length : Int)) := fun H T vs Q s h q => by
  obtain ⟨v, rfl, a, us, rfl, h1, h2⟩ := isL_one h
  exact ⟨a, us, rfl, .inr (same_t s h1), q _ (by rw [h2.len]; exact (rfl : V.int _ = V.int _))⟩
theorem rc_lenC {ns : List Int} : RcD K (rLen K) [.scr ns] (.int (ns.length : Int)) := fun H T vs Q s h q => by
  obtain ⟨v, rfl, a, rfl, h1⟩ := isL_one h
  exact ⟨a, ns.map V.int, rfl, .inl (s.seq h1), q _ (by rw [List.length_map]; exact (rfl : V.int _ = V.int _))⟩
theorem ev_lenO {i : Nat} (e : ρ[i]? = some (.ow l)) : EvD K (tCB (rLen K) (tCons (tVar i) tNil)) ρ (.int (l.length : Int)) := fun M T0 H T σ X Q h q => by
  obtain ⟨p, vs, h1, h2, h4, _⟩ := h.own e
  exact ⟨.ref p, h1, p, vs, rfl, .inl (.inl (.inl h2)), q _ H T (Same.refl _) (Same.refl _) h (by rw [h4.len]; exact (rfl : V.int _ = V.int _))⟩
theorem rc_int {i : Int} : RcD K (fun xs H Q => (∃ i, xs = [.int i] ∧ Q (.int i) H) ∨ ∃ k, xs = [.bl k] ∧ Q (.int (if k then 1 else 0)) H) [.int i] (.int i) := fun H T vs Q s h q => by
  obtain ⟨v, rfl, hv⟩ := isL_one h
  exact .inl ⟨i, by rw [show v = V.int i from hv], q _ rfl⟩
theorem rc_intB {b : Bool} : RcD K (fun xs H Q => (∃ i, xs = [.int i] ∧ Q (.int i) H) ∨ ∃ k, xs = [.bl k] ∧ Q (.int (if k then 1 else 0)) H) [.bl b] (.int (if b then 1 else 0)) := fun H T vs Q s h q => by
  obtain ⟨v, rfl, hv⟩ := isL_one h
  exact .inr ⟨b, by rw [show v = V.bl b from hv], q _ rfl⟩
theorem rc_abs {i : Int} : RcD K (fun xs H Q => ∃ i, xs = [.int i] ∧ Q (.int (if i < 0 then -i else i)) H) [.int i] (.int (i.natAbs : Int)) := fun H T vs Q s h q => by
  obtain ⟨v, rfl, hv⟩ := isL_one h
  refine ⟨i, by rw [show v = V.int i from hv], q _ ?_⟩
  show V.int _ = V.int _
  congr 1
  split <;> omega
theorem rc_gcd {a b : Int} : RcD K rGcd [.int a, .int b] (.int ((Nat.gcd a.natAbs b.natAbs : Nat) : Int)) := fun H T vs Q s h q => by
  obtain ⟨v, w, rfl, hv, hw⟩ := isL_two h
  exact ⟨a, b, by rw [show v = V.int a from hv, show w = V.int b from hw], q _ rfl⟩
theorem rc_list : RcO K (fun xs H Q => ∃ p ys, xs = [.ref p] ∧ (SqL K H p ys ∨ SqT K H p ys) ∧ ∀ l, H l = none → Q (.ref l) (upd H l (.lst ys))) [.lst l] l := fun H T vs Q s h q => by
  obtain ⟨v, rfl, a, us, rfl, h1, h2⟩ := isL_one h
  exact ⟨a, us, rfl, .inl (.inl (.inl (s _ _ h1))), fun p hp => q p us hp h2⟩
theorem rc_listT : RcO K (fun xs H Q => ∃ p ys, xs = [.ref p] ∧ (SqL K H p ys ∨ SqT K H p ys) ∧ ∀ l, H l = none → Q (.ref l) (upd H l (.lst ys))) [.tup l] l := fun H T vs Q s h q => by
  obtain ⟨v, rfl, a, us, rfl, h1, h2⟩ := isL_one h
  exact ⟨a, us, rfl, .inr (same_t s h1), fun p hp => q p us hp h2⟩
theorem rvo_cat {l' : List D} (hz : l.length + l'.length ≤ 100000) : RvO K rCat (.lst l) (.lst l') (l ++ l') := fun H T vx vy Q s ⟨a, us, e1, h1, h2⟩ ⟨b, ws, e2, h3, h4⟩ q =>
  ⟨a, b, us, ws, e1, e2, s _ _ h1, s _ _ h3, by rw [h2.len, h4.len]; exact Nat.le_trans hz (by decide), fun p hp => q p _ hp (h2.app h4)⟩
theorem rvo_rep {k : Int} (h1 : -(2 ^ 63) ≤ k ∧ k < 2 ^ 63) (hz : l.length * k.toNat ≤ 100000) : RvO K rRep (.lst l) (.int k) (List.replicate k.toNat l).flatten := fun H T vx vy Q s ⟨a, us, e1, g1, g2⟩ g3 q =>
  ⟨a, k, us, e1, g3, s _ _ g1, h1.1, h1.2, by rw [g2.len]; exact Nat.le_trans hz (by decide), fun p hp => q p _ hp (by
    induction k.toNat with
    | zero => exact (rfl : [] = [])
    | succ n ih =>
      rw [List.replicate_succ, List.replicate_succ, List.flatten_cons, List.flatten_cons]
      exact g2.app ih)⟩
end

/-! ### calls of the text's own defs -/
/-- an exception's data: its class, the names and the values of its fields -/
abbrev Exn := Value × List Str × List D
def IsX (K : PySem.W.Frag) (H : Hp) (od : Option Addr) (ns : List Str) (ds : List D) : Prop := (ns = [] ∧ od = none) ∨ ∃ d vs, od = some d ∧ H d = some (.xd (ns.zip vs)) ∧ IsL K H ds vs
/-- what is handed back; T0: the heap at the entry -/
def RetR (K : PySem.W.Frag) (M : Op) (T0 H T : Hp) (v : V) : Sl → Prop
  | .no => False
  | .im d => Is K H d v ∧ Opn H T M
  | .ow l => ∃ p vs, v = .ref p ∧ IsL K H l vs ∧ Opn H T ((p, .lst vs) :: M) ∧ T0 p = none
  | .cl d => ∃ Lc, IsC d v Lc ∧ Opn H T (Lc ++ M) ∧ ∀ x ∈ Lc, T0 x.1 = none
/-- a promise over data: what is asked of the arguments, of what comes back (R), of what is raised (Z) -/
abbrev PrD := List D → (Sl → Prop) → (Exn → Prop) → Prop
def spD (K : PySem.W.Frag) (P : PrD) : Sp := fun vs T Q E => ∃ (M : Op) (H : Hp) (ds : List D) (R : Sl → Prop) (Z : Exn → Prop), Opn H T M ∧ IsL K H ds vs ∧ P ds R Z ∧
  (∀ s v H' T', R s → Same H H' → Same T T' → RetR K M T H' T' v s → Q v T') ∧ ∀ c ns es od H' T', Z (c, ns, es) → Same H H' → Same T T' → Opn H' T' M → IsX K H' od ns es → E c od T'
section
variable {K : PySem.W.Frag} {ρ : Rho} {x z d : D} {l : List D} {ds : List D} {tr : TA} {P : PrD} {E : XK} {M X L : Op} {T0 H H' T T' : Hp} {σ : L2.St} {v : V}
theorem EnX.ret_im (e : EnX K M T0 H T σ ρ X) (r : EnR K H ρ σ L) (f : ∀ x ∈ X ++ L, T0 x.1 = none) (s : Same H H') (t : Same T T') (q : RetR K (X ++ (L ++ M)) T H' T' v (.im d)) : EnX K M T0 H' T' σ ρ X ∧ Is K H' d v :=
  ⟨⟨⟨L, r.up s, q.2, f⟩, e.t0.trans t⟩, q.1⟩
theorem EnX.ret_ow (e : EnX K M T0 H T σ ρ X) (r : EnR K H ρ σ L) (f : ∀ x ∈ X ++ L, T0 x.1 = none) (s : Same H H') (t : Same T T') (q : RetR K (X ++ (L ++ M)) T H' T' v (.ow l)) : ∃ p vs, v = .ref p ∧ EnX K M T0 H' T' σ ρ ((p, .lst vs) :: X) ∧ IsL K H' l vs := by
  obtain ⟨p, vs, rfl, h1, h2, h3⟩ := q
  refine ⟨p, vs, rfl, ⟨⟨L, r.up s, h2, fun x hx => ?_⟩, e.t0.trans t⟩, h1⟩
  rcases List.mem_cons.mp hx with rfl | hx
  · exact e.t0.free h3
  · exact f x hx
theorem EnX.ret_cl (e : EnX K M T0 H T σ ρ X) (r : EnR K H ρ σ L) (f : ∀ x ∈ X ++ L, T0 x.1 = none) (s : Same H H') (t : Same T T') (q : RetR K (X ++ (L ++ M)) T H' T' v (.cl d)) : ∃ Lc, EnX K M T0 H' T' σ ρ (Lc ++ X) ∧ IsC d v Lc := by
  obtain ⟨Lc, h1, h2, h3⟩ := q
  refine ⟨Lc, ⟨⟨L, r.up s, by rw [List.append_assoc]; exact h2, fun x hx => ?_⟩, e.t0.trans t⟩, h1⟩
  rw [List.append_assoc] at hx
  rcases List.mem_append.mp hx with hx | hx
  · exact e.t0.free (h3 x hx)
  · exact f x hx
theorem ev_call (ha : EvA K tr ρ ds) (hp : P ds (fun s => s = .im z) (fun _ => False)) : EvD K (tCall (spD K P) [] E tr) ρ z := fun M T0 H T σ X Q e q =>
  ha M T0 H T σ X _ e fun vs H1 T1 s1 t1 e1 i1 => by
    obtain ⟨L, r, o, f⟩ := e1.ex
    show spD K P (vs ++ []) T1 Q E
    rw [List.append_nil]
    refine ⟨_, H1, ds, _, _, o, i1, hp, fun s v H' T' hs s' t' hr => ?_, fun _ _ _ _ _ _ h => h.elim⟩
    subst hs
    obtain ⟨e2, iz⟩ := e1.ret_im r f s' t' hr
    exact q v H' T' (s1.trans s') (t1.trans t') e2 iz
theorem ev_callO (ha : EvA K tr ρ ds) (hp : P ds (fun s => s = .ow l) (fun _ => False)) : EvO K (tCall (spD K P) [] E tr) ρ l := fun M T0 H T σ X Q e q =>
  ha M T0 H T σ X _ e fun vs H1 T1 s1 t1 e1 i1 => by
    obtain ⟨L, r, o, f⟩ := e1.ex
    show spD K P (vs ++ []) T1 Q E
    rw [List.append_nil]
    refine ⟨_, H1, ds, _, _, o, i1, hp, fun s v H' T' hs s' t' hr => ?_, fun _ _ _ _ _ _ h => h.elim⟩
    subst hs
    obtain ⟨p, us, rfl, e2, iz⟩ := e1.ret_ow r f s' t' hr
    exact q p us H' T' (s1.trans s') (t1.trans t') e2 iz
end

/-! ### closed results, and what is read now (no matter who owns it) -/
section
variable (K : PySem.W.Frag)
def EvC (te : TE) (ρ : Rho) (d : D) : Prop := ∀ (M : Op) (T0 H T : Hp) (σ : L2.St) (X : Op) (Q : VK), EnX K M T0 H T σ ρ X → (∀ v Lc H' T', Same H H' → Same T T' → EnX K M T0 H' T' σ ρ (Lc ++ X) → IsC d v Lc → Q v T') → te σ T Q
def EvCA (ta : TA) (ρ : Rho) (ds : List D) : Prop := ∀ (M : Op) (T0 H T : Hp) (σ : L2.St) (X : Op) (Q : List V → Hp → Prop), EnX K M T0 H T σ ρ X → (∀ vs Lc H' T', Same H H' → Same T T' → EnX K M T0 H' T' σ ρ (Lc ++ X) → IsCL ds vs Lc → Q vs T') → ta σ T Q
def EvN (te : TE) (ρ : Rho) (d : D) : Prop := ∀ (M : Op) (T0 H T : Hp) (σ : L2.St) (X : Op) (Q : VK), EnX K M T0 H T σ ρ X → (∀ v H' T', Same H H' → Same T T' → EnX K M T0 H' T' σ ρ X → Is K T' d v → Q v T') → te σ T Q
def EvNA (ta : TA) (ρ : Rho) (ds : List D) : Prop := ∀ (M : Op) (T0 H T : Hp) (σ : L2.St) (X : Op) (Q : List V → Hp → Prop), EnX K M T0 H T σ ρ X → (∀ vs H' T', Same H H' → Same T T' → EnX K M T0 H' T' σ ρ X → IsL K T' ds vs → Q vs T') → ta σ T Q
end
section
variable {K : PySem.W.Frag} {ρ : Rho} {x y z d : D} {l : List D} {ds : List D} {te ta tb : TE} {tr : TA} {P : PrD} {E : XK} {r : R2} {i : Nat}
theorem ec_sc (h : EvD K te ρ d) (hs : d.sc = true) : EvC K te ρ d := fun M T0 H T σ X Q e q =>
  h M T0 H T σ X _ e fun v H1 T1 s1 t1 e1 i1 => q v [] H1 T1 s1 t1 e1 (i1.sc hs)
theorem ec_ow (h : EvO K te ρ l) (hs : ∀ d ∈ l, d.sc = true) : EvC K te ρ (.lst l) := fun M T0 H T σ X Q e q =>
  h M T0 H T σ X _ e fun p vs H1 T1 s1 t1 e1 i1 => q (.ref p) [(p, .lst vs)] H1 T1 s1 t1 e1 ⟨p, vs, [], rfl, rfl, i1.sc hs⟩
/-- known from now on -/
theorem ec_fz (h : EvC K te ρ d) : EvD K te ρ d := fun M T0 H T σ X Q e q =>
  h M T0 H T σ X _ e fun v Lc H1 T1 s1 t1 e1 i1 => by
    obtain ⟨H2, s2, e2, h2⟩ := e1.closeAll
    exact q v H2 T1 (s1.trans s2) t1 e2 (IsC.is d v Lc i1 h2)
theorem eca_nil : EvCA K tNil ρ [] := fun M T0 H T σ X Q e q => q [] [] H T (Same.refl _) (Same.refl _) e ⟨rfl, rfl⟩
theorem eca_cons (ha : EvC K ta ρ x) (hr : EvCA K tr ρ ds) : EvCA K (tCons ta tr) ρ (x :: ds) := fun M T0 H T σ X Q e q =>
  ha M T0 H T σ X _ e fun v L1 H1 T1 s1 t1 e1 i1 => hr M T0 H1 T1 σ _ _ e1 fun vs L2 H2 T2 s2 t2 e2 i2 => q (v :: vs) (L1 ++ L2) H2 T2 (s1.trans s2) (t1.trans t2) (e2.perm (by
    rw [← List.append_assoc]
    exact List.perm_append_comm.append_right _)) (IsCL.cons i1 i2)
theorem ec_tup (ha : EvCA K tr ρ ds) (hl : ds.length ≤ 1000) : EvC K (tTup tr) ρ (.tup ds) := fun M T0 H T σ X Q e q =>
  ha M T0 H T σ X _ e fun vs L H1 T1 s1 t1 e1 i1 => ⟨by rw [i1.len]; exact Nat.le_trans hl (by decide), fun p hp => q (.ref p) ((p, .tup vs) :: L) H1 _ s1 (t1.trans (same_new hp)) (e1.opened hp) ⟨p, vs, L, rfl, rfl, i1⟩⟩
theorem ec_lst (ha : EvCA K tr ρ ds) (hl : ds.length ≤ 1000) : EvC K (tLst tr) ρ (.lst ds) := fun M T0 H T σ X Q e q =>
  ha M T0 H T σ X _ e fun vs L H1 T1 s1 t1 e1 i1 => ⟨by rw [i1.len]; exact Nat.le_trans hl (by decide), fun p hp => q (.ref p) ((p, .lst vs) :: L) H1 _ s1 (t1.trans (same_new hp)) (e1.opened hp) ⟨p, vs, L, rfl, rfl, i1⟩⟩
theorem ec_call (ha : EvA K tr ρ ds) (hp : P ds (fun s => s = .cl z) (fun _ => False)) : EvC K (tCall (spD K P) [] E tr) ρ z := fun M T0 H T σ X Q e q =>
  ha M T0 H T σ X _ e fun vs H1 T1 s1 t1 e1 i1 => by
    obtain ⟨L, r, o, f⟩ := e1.ex
    show spD K P (vs ++ []) T1 Q E
    rw [List.append_nil]
    refine ⟨_, H1, ds, _, _, o, i1, hp, fun s v H' T' hs s' t' hr => ?_, fun _ _ _ _ _ _ h => h.elim⟩
    subst hs
    obtain ⟨Lc, e2, iz⟩ := e1.ret_cl r f s' t' hr
    exact q v Lc H' T' (s1.trans s') (t1.trans t') e2 iz
/-! now -/
theorem en_d (h : EvD K te ρ d) : EvN K te ρ d := fun M T0 H T σ X Q e q => h M T0 H T σ X _ e fun v H1 T1 s1 t1 e1 i1 => q v H1 T1 s1 t1 e1 (i1.up e1.same)
theorem EnX.get_cl {M X : Op} {T0 H T : Hp} {σ : L2.St} (h : EnX K M T0 H T σ ρ X) (e : ρ[i]? = some (.cl d)) : ∃ v, σ[i]? = some (some v) ∧ Is K T d v := by
  obtain ⟨x, Ls, h1, h2, h3⟩ := h.take e
  obtain ⟨v, rfl, hc⟩ := h2.cl1
  refine ⟨v, h1, IsC.is d v Ls hc fun x hx => ?_⟩
  obtain ⟨L, r, q, f⟩ := h3.ex
  exact q.at_ x (List.mem_append_left _ (List.mem_append_left _ hx))
theorem en_cl (e : ρ[i]? = some (.cl d)) : EvN K (tVar i) ρ d := fun M T0 H T σ X Q en q => by
  obtain ⟨v, h1, h2⟩ := en.get_cl e
  exact ⟨v, h1, q v H T (Same.refl _) (Same.refl _) en h2⟩
theorem en_ow (e : ρ[i]? = some (.ow l)) : EvN K (tVar i) ρ (.lst l) := fun M T0 H T σ X Q en q => by
  obtain ⟨p, vs, h1, h2, h3, _⟩ := en.own e
  exact ⟨.ref p, h1, q _ H T (Same.refl _) (Same.refl _) en ⟨p, vs, rfl, h2, h3.up en.same⟩⟩
theorem en_op (ha : EvN K ta ρ x) (hb : EvN K tb ρ y) (hr : RvD K r x y z) : EvN K (tOp r ta tb) ρ z := fun M T0 H T σ X Q e q =>
  ha M T0 H T σ X _ e fun v H1 T1 s1 t1 e1 i1 => hb M T0 H1 T1 σ X _ e1 fun w H2 T2 s2 t2 e2 i2 => hr T2 T2 v w Q (Same.refl _) (i1.up t2) i2 fun u iu => q u H2 T2 (s1.trans s2) (t1.trans t2) e2 iu
theorem en_cb {r : List V → Hp → VK → Prop} (ha : EvNA K tr ρ ds) (hr : RcD K r ds z) : EvN K (tCB r tr) ρ z := fun M T0 H T σ X Q e q =>
  ha M T0 H T σ X _ e fun vs H1 T1 s1 t1 e1 i1 => hr T1 T1 vs Q (Same.refl _) i1 fun u iu => q u H1 T1 s1 t1 e1 iu
/-- a number, a text .. read now is one for ever -/
theorem ev_now (h : EvN K te ρ d) (hs : d.sc = true) : EvD K te ρ d := fun M T0 H T σ X Q e q => h M T0 H T σ X _ e fun v H1 T1 s1 t1 e1 i1 => q v H1 T1 s1 t1 e1 (i1.any hs)
theorem ena_nil : EvNA K tNil ρ [] := fun M T0 H T σ X Q e q => q [] H T (Same.refl _) (Same.refl _) e rfl
theorem ena_cons (ha : EvN K ta ρ x) (hr : EvNA K tr ρ ds) : EvNA K (tCons ta tr) ρ (x :: ds) := fun M T0 H T σ X Q e q =>
  ha M T0 H T σ X _ e fun v H1 T1 s1 t1 e1 i1 => hr M T0 H1 T1 σ X _ e1 fun vs H2 T2 s2 t2 e2 i2 => q (v :: vs) H2 T2 (s1.trans s2) (t1.trans t2) e2 (.cons (i1.up t2) i2)
theorem Opn.all {T : Hp} : Opn T T [] := ⟨Same.refl _, fun _ h => (nomatch h), fun _ h => (nomatch h), List.nodup_nil⟩
/-- after a call to which all was lent -/
theorem EnX.lent {M X : Op} {T0 H T T' : Hp} {σ : L2.St} (e : EnX K M T0 H T σ ρ X) (t : Same T T') : EnX K M T0 H T' σ ρ X := by
  obtain ⟨L, r, o, f⟩ := e.ex
  exact ⟨⟨L, r, ⟨o.same.trans t, o.free, fun x hx => t _ _ (o.at_ x hx), o.nd⟩, f⟩, e.t0.trans t⟩
theorem EnX.lentC {M X Lc : Op} {T0 H T T' H' : Hp} {σ : L2.St} (e : EnX K M T0 H T σ ρ X) (t : Same T T') (s : Same T H') (o' : Opn H' T' (Lc ++ [])) (f' : ∀ x ∈ Lc, T x.1 = none) : EnX K M T0 H T' σ ρ (Lc ++ X) := by
  rw [List.append_nil] at o'
  obtain ⟨L, r, o, f⟩ := e.ex
  refine ⟨⟨L, r, ⟨o.same.trans t, fun x hx => ?_, fun x hx => ?_, ?_⟩, fun x hx => ?_⟩, e.t0.trans t⟩
  · rw [List.append_assoc] at hx
    rcases List.mem_append.mp hx with hx | hx
    · exact o.same.free (f' x hx)
    · exact o.free x hx
  · rw [List.append_assoc] at hx
    rcases List.mem_append.mp hx with hx | hx
    · exact o'.at_ x hx
    · exact t _ _ (o.at_ x hx)
  · rw [List.append_assoc, List.map_append, List.nodup_append]
    refine ⟨o'.nd, o.nd, fun a ha b hb z => ?_⟩
    obtain ⟨x, hx, ex⟩ := List.mem_map.mp ha
    obtain ⟨y, hy, ey⟩ := List.mem_map.mp hb
    have h1 := f' x hx
    have h2 := o.at_ y hy
    rw [ex, z, ← ey, h2] at h1
    cases h1
  · rw [List.append_assoc] at hx
    rcases List.mem_append.mp hx with hx | hx
    · exact e.t0.free (f' x hx)
    · exact f x hx
/-- a call that may read all there is; it hands back a number, a text .. -/
theorem ev_callN (ha : EvNA K tr ρ ds) (hp : P ds (fun s => s = .im z) (fun _ => False)) (hz : z.sc = true) : EvD K (tCall (spD K P) [] E tr) ρ z := fun M T0 H T σ X Q e q =>
  ha M T0 H T σ X _ e fun vs H1 T1 s1 t1 e1 i1 => by
    show spD K P (vs ++ []) T1 Q E
    rw [List.append_nil]
    refine ⟨[], T1, ds, _, _, Opn.all, i1, hp, fun s v H' T' hs s' t' hr => ?_, fun _ _ _ _ _ _ h => h.elim⟩
    subst hs
    exact q v H1 T' s1 (t1.trans t') (e1.lent t') (hr.1.any hz)
/-- a call that may read all there is; it hands back something closed -/
theorem ec_callN (ha : EvNA K tr ρ ds) (hp : P ds (fun s => s = .cl z) (fun _ => False)) : EvC K (tCall (spD K P) [] E tr) ρ z := fun M T0 H T σ X Q e q =>
  ha M T0 H T σ X _ e fun vs H1 T1 s1 t1 e1 i1 => by
    show spD K P (vs ++ []) T1 Q E
    rw [List.append_nil]
    refine ⟨[], T1, ds, _, _, Opn.all, i1, hp, fun s v H' T' hs s' t' hr => ?_, fun _ _ _ _ _ _ h => h.elim⟩
    subst hs
    obtain ⟨Lc, h1, h2, h3⟩ := hr
    exact q v Lc H1 T' s1 (t1.trans t') (e1.lentC t' s' h2 h3) h1
theorem ec_cbN {r : List V → Hp → VK → Prop} (ha : EvNA K tr ρ ds) (hr : RcO K r ds l) (hs : ∀ d ∈ l, d.sc = true) : EvC K (tCB r tr) ρ (.lst l) := fun M T0 H T σ X Q e q =>
  ha M T0 H T σ X _ e fun vs H1 T1 s1 t1 e1 i1 => hr T1 T1 vs Q (Same.refl _) i1 fun p us hp iu => q (.ref p) [(p, .lst us)] H1 _ s1 (t1.trans (same_new hp)) (e1.opened hp) ⟨p, us, [], rfl, rfl, iu.sc hs⟩
end
end FS
set_option Elab.async false
set_option linter.all false
set_option maxRecDepth 100000
set_option maxHeartbeats 4000000
namespace FS
open PySem PySem.Spec PyProof.Rows L2

/-! ### statements -/
structure Pst where
  nx : Rho → Prop
  rt : Sl → Prop := fun _ => False
  bk : Rho → Prop := fun _ => False
  ct : Rho → Prop := fun _ => False
  ex : Exn → Prop := fun _ => False
structure Lk (K : PySem.W.Frag) (M : Op) (E : XK) (T0 H : Hp) (P : Pst) (Dn : Ends) : Prop where
  nx : ∀ ρ' σ' H' T', P.nx ρ' → Same H H' → En K M T0 H' T' σ' ρ' → Dn.nx σ' T'
  rt : ∀ s v H' T', P.rt s → Same H H' → Same T0 T' → RetR K M T0 H' T' v s → Dn.rt v T'
  bk : ∀ ρ' σ' H' T', P.bk ρ' → Same H H' → En K M T0 H' T' σ' ρ' → Dn.bk σ' T'
  ct : ∀ ρ' σ' H' T', P.ct ρ' → Same H H' → En K M T0 H' T' σ' ρ' → Dn.ct σ' T'
  ex : ∀ c ns es od H' T', P.ex (c, ns, es) → Same H H' → Same T0 T' → Opn H' T' M → IsX K H' od ns es → E c od T'
/-- from ρ on, the code ends as P says -/
def Ws (K : PySem.W.Frag) (E : XK) (ts : TS) (ρ : Rho) (P : Pst) : Prop := ∀ (M : Op) (T0 H T : Hp) (σ : L2.St) (Dn : Ends), En K M T0 H T σ ρ → Lk K M E T0 H P Dn → ts Dn σ T

section
variable {K : PySem.W.Frag} {E : XK} {ρ : Rho} {P : Pst} {M X : Op} {T0 H H' T T' : Hp} {σ : L2.St} {Dn : Ends} {te ta tb : TE} {t u : TS} {tt : TT} {d x y : D} {l : List D} {ds : List D} {tr : TA} {g : TG} {i : Nat}
theorem Lk.up (k : Lk K M E T0 H P Dn) (s : Same H H') : Lk K M E T0 H' P Dn :=
  ⟨fun ρ' σ' H2 T' p s' e => k.nx ρ' σ' H2 T' p (s.trans s') e, fun v w H2 T' p s' t' e => k.rt v w H2 T' p (s.trans s') t' e, fun ρ' σ' H2 T' p s' e => k.bk ρ' σ' H2 T' p (s.trans s') e, fun ρ' σ' H2 T' p s' e => k.ct ρ' σ' H2 T' p (s.trans s') e,
    fun c ns es od H2 T' p s' t' e => k.ex c ns es od H2 T' p (s.trans s') t' e⟩
theorem ws_seq (h : Ws K E t ρ { P with nx := fun ρ' => Ws K E u ρ' P }) : Ws K E (tSeq t u) ρ P := fun M T0 H T σ Dn e k =>
  h M T0 H T σ { Dn with nx := u Dn } e ⟨fun ρ' σ' H' T' p s e' => p M T0 H' T' σ' Dn e' (k.up s), k.rt, k.bk, k.ct, k.ex⟩
theorem ws_mono {P' : Pst} (h : Ws K E t ρ P) (h1 : ∀ ρ', P.nx ρ' → P'.nx ρ') (h2 : ∀ s, P.rt s → P'.rt s) (h3 : ∀ ρ', P.bk ρ' → P'.bk ρ') (h4 : ∀ ρ', P.ct ρ' → P'.ct ρ') (h5 : ∀ z, P.ex z → P'.ex z) : Ws K E t ρ P' := fun M T0 H T σ Dn e k =>
  h M T0 H T σ Dn e ⟨fun ρ' σ' H' T' p => k.nx ρ' σ' H' T' (h1 ρ' p), fun s v H' T' p => k.rt s v H' T' (h2 s p), fun ρ' σ' H' T' p => k.bk ρ' σ' H' T' (h3 ρ' p), fun ρ' σ' H' T' p => k.ct ρ' σ' H' T' (h4 ρ' p), fun c ns es od H' T' p => k.ex c ns es od H' T' (h5 _ p)⟩
theorem ws_next (h : P.nx ρ) : Ws K E tNext ρ P := fun M T0 H T σ Dn e k => k.nx ρ σ H T h (Same.refl _) e
theorem ws_break (h : P.bk ρ) : Ws K E tBreak ρ P := fun M T0 H T σ Dn e k => k.bk ρ σ H T h (Same.refl _) e
theorem ws_cont (h : P.ct ρ) : Ws K E tCont ρ P := fun M T0 H T σ Dn e k => k.ct ρ σ H T h (Same.refl _) e
theorem ws_asg (hv : EvD K te ρ d) (h : P.nx (ρ.set i (.im d))) : Ws K E (tAsg te (gName i)) ρ P := fun M T0 H T σ Dn e k =>
  hv M T0 H T σ [] _ e fun v H' T' s t' e' iv => k.nx _ _ H' T' h s (e'.set iv)
theorem ws_asgO (hv : EvO K te ρ l) (hi : i < ρ.length) (h : P.nx (ρ.set i (.ow l))) : Ws K E (tAsg te (gName i)) ρ P := fun M T0 H T σ Dn e k =>
  hv M T0 H T σ [] _ e fun p vs H' T' s t' e' iv => k.nx _ _ H' T' h s (EnX.setO e' hi iv)
theorem ws_asgC (hv : EvC K te ρ d) (hi : i < ρ.length) (h : P.nx (ρ.set i (.cl d))) : Ws K E (tAsg te (gName i)) ρ P := fun M T0 H T σ Dn e k =>
  hv M T0 H T σ [] _ e fun v Lc H' T' s t' e' iv => k.nx _ _ H' T' h s (EnX.setC e' hi iv)
theorem ws_drop (hv : EvD K te ρ d) (h : P.nx ρ) : Ws K E (tDrop te) ρ P := fun M T0 H T σ Dn e k =>
  hv M T0 H T σ [] _ e fun v H' T' s t' e' iv => k.nx _ _ H' T' h s e'
theorem ws_ret (hv : EvD K te ρ d) (h : P.rt (.im d)) : Ws K E (tRet te) ρ P := fun M T0 H T σ Dn e k =>
  hv M T0 H T σ [] _ e fun v H' T' s t' e' iv => k.rt (.im d) v H' T' h s e'.t0 ⟨iv, e'.frame⟩
theorem EnX.give (e : EnX K M T0 H T σ ρ (X ++ [])) : Opn H T (X ++ M) ∧ ∀ x ∈ X, T0 x.1 = none := by
  rw [List.append_nil] at e
  obtain ⟨L, r, q, f⟩ := e.ex
  exact ⟨q.sub ((List.Sublist.refl X).append (List.sublist_append_right L M)), fun x hx => f x (List.mem_append_left _ hx)⟩
theorem ws_retO (hv : EvO K te ρ l) (h : P.rt (.ow l)) : Ws K E (tRet te) ρ P := fun M T0 H T σ Dn e k =>
  hv M T0 H T σ [] _ e fun p vs H' T' s t' e' iv => k.rt (.ow l) (.ref p) H' T' h s e'.t0 ⟨p, vs, rfl, iv, (EnX.give (X := [(p, .lst vs)]) e').1, (EnX.give (X := [(p, .lst vs)]) e').2 _ List.mem_cons_self⟩
theorem ws_retC (hv : EvC K te ρ d) (h : P.rt (.cl d)) : Ws K E (tRet te) ρ P := fun M T0 H T σ Dn e k =>
  hv M T0 H T σ [] _ e fun v Lc H' T' s t' e' iv => k.rt (.cl d) v H' T' h s e'.t0 ⟨Lc, iv, (EnX.give e').1, (EnX.give e').2⟩
/-- return x, x an open list, a closed tree -/
theorem ws_retV (e : ρ[i]? = some (.ow l)) (h : P.rt (.ow l)) : Ws K E (tRet (tVar i)) ρ P := fun M T0 H T σ Dn en k => by
  obtain ⟨p, vs, h1, h2, h4, h5, h6, h7⟩ := en.own e
  exact ⟨.ref p, h1, k.rt (.ow l) (.ref p) H T h (Same.refl _) en.t0 ⟨p, vs, rfl, h4, (EnX.give (X := [(p, .lst vs)]) h7).1, (EnX.give (X := [(p, .lst vs)]) h7).2 _ List.mem_cons_self⟩⟩
theorem ws_retVc (e : ρ[i]? = some (.cl d)) (h : P.rt (.cl d)) : Ws K E (tRet (tVar i)) ρ P := fun M T0 H T σ Dn en k => by
  obtain ⟨x, Ls, h1, h2, h3⟩ := en.take e
  obtain ⟨v, rfl, hc⟩ := h2.cl1
  exact ⟨v, h1, k.rt (.cl d) v H T h (Same.refl _) en.t0 ⟨Ls, hc, (EnX.give h3).1, (EnX.give h3).2⟩⟩
theorem ws_retN (h : P.rt (.im .non)) : Ws K E tRetN ρ P := fun M T0 H T σ Dn e k => k.rt (.im .non) .non H T h (Same.refl _) e.t0 ⟨rfl, e.frame⟩
theorem ws_if {b : Bool} (hc : EvT K tt ρ b) (h1 : b = true → Ws K E t ρ P) (h2 : b = false → Ws K E u ρ P) : Ws K E (tIfS tt t u) ρ P := fun M T0 H T σ Dn e k =>
  hc M T0 H T σ [] _ e fun H' T' s t' e' => by
    cases b with
    | true =>
      show t Dn σ T'
      exact h1 rfl M T0 H' T' σ Dn e' (k.up s)
    | false =>
      show u Dn σ T'
      exact h2 rfl M T0 H' T' σ Dn e' (k.up s)
/-- the open list at slot i is known from now on -/
theorem ws_fz (e : ρ[i]? = some (.ow l)) (h : Ws K E t (ρ.set i (.im (.lst l))) P) : Ws K E t ρ P := fun M T0 H T σ Dn en k => by
  obtain ⟨p, vs, h1, h2, h4, h5, ⟨s, h6⟩, h7⟩ := en.own e
  exact h M T0 _ T σ Dn h6 (k.up s)
theorem ws_fzC (e : ρ[i]? = some (.cl d)) (h : Ws K E t (ρ.set i (.im d)) P) : Ws K E t ρ P := fun M T0 H T σ Dn en k => by
  obtain ⟨x, Ls, h1, h2, h3⟩ := en.take e
  obtain ⟨v, rfl, hc⟩ := h2.cl1
  obtain ⟨H2, s2, e2, h4⟩ := h3.closeAll
  have e3 := e2.set (i := i) (IsC.is (K := K) d v Ls hc h4)
  rw [set_self h1, List.set_set] at e3
  exact h M T0 H2 T σ Dn e3 (k.up s2)
/-- an open list of numbers is a closed tree -/
theorem ws_owcl (e : ρ[i]? = some (.ow l)) (hs : ∀ d ∈ l, d.sc = true) (h : Ws K E t (ρ.set i (.cl (.lst l))) P) : Ws K E t ρ P := fun M T0 H T σ Dn en k => by
  obtain ⟨x, Ls, h1, h2, h3⟩ := en.take e
  obtain ⟨p, vs, rfl, rfl, hl⟩ := h2.ow1
  have hi : i < (ρ.set i .no).length := by rw [List.length_set]; exact (List.getElem?_eq_some_iff.mp e).1
  have e3 := EnX.setC (Lc := [(p, .lst vs)]) (d := .lst l) (v := .ref p) h3 hi ⟨p, vs, [], rfl, rfl, hl.sc hs⟩
  rw [set_self h1, List.set_set] at e3
  exact h M T0 H T σ Dn e3 k
/-- a slot forgotten -/
theorem ws_forget (hi : i < ρ.length) (h : Ws K E t (ρ.set i .no) P) : Ws K E t ρ P := fun M T0 H T σ Dn en k => by
  obtain ⟨x, hx⟩ := get_some (l := σ) (i := i) (by rw [en.len]; exact hi)
  have e2 := en.drop (i := i) (x := x)
  rw [set_self hx] at e2
  exact h M T0 H T σ Dn e2 k
/-- xs.append(e), xs an open list -/
theorem ws_app (e : ρ[i]? = some (.ow l)) (hv : EvD K te ρ d) (hz : l.length < 100000) (h : P.nx (ρ.set i (.ow (l ++ [d])))) : Ws K E (tDrop (tBM K "list" rAppend (tVar i) (tCons te tNil))) ρ P := fun M T0 H T σ Dn en k => by
  obtain ⟨p, vs, h1, h2, h4, _⟩ := en.own e
  refine ⟨.ref p, h1, .inl ⟨rfl, vs, .inl (.inl h2)⟩, hv M T0 H T σ [] _ en fun v H' T' s t' e' iv => ?_⟩
  obtain ⟨p', vs', g1, g2, g4, g5, _⟩ := e'.own e
  rw [h1] at g1
  cases g1
  exact ⟨p, vs', v, rfl, rfl, g2, by rw [g4.len]; exact Nat.lt_of_lt_of_le hz (by decide), k.nx _ _ _ _ h s (g5 _ _ (g4.app (.one iv)))⟩
/-- xs[j] = e, xs an open list -/
theorem ws_setL {j : Nat} {z : Int} (e : ρ[i]? = some (.ow l)) (hv : EvD K te ρ d) (hi : EvD K tb ρ (.int z)) (hj : ixN l.length z = some j) (h : P.nx (ρ.set i (.ow (l.set j d)))) : Ws K E (tAsg te (gSub (tVar i) tb rSetL)) ρ P := fun M T0 H T σ Dn en k =>
  hv M T0 H T σ [] _ en fun v H1 T1 s1 t1 e1 i1 => by
    obtain ⟨p, vs, h1, h2, h4, _⟩ := e1.own e
    refine ⟨.ref p, h1, hi M T0 H1 T1 σ [] _ e1 fun w H2 T2 s2 t2 e2 i2 => ?_⟩
    obtain ⟨p', vs', g1, g2, g4, g5, _⟩ := e2.own e
    rw [h1] at g1
    cases g1
    exact ⟨p, vs', z, j, rfl, i2, g2, by rw [g4.len]; exact hj, k.nx _ _ _ _ h (s1.trans s2) (g5 _ _ (IsL.set (i1.up s2) j g4))⟩
/-- name op= e -/
theorem ws_aug {r : R2} {z : D} (e : ρ[i]? = some (.im x)) (hv : EvD K te ρ y) (hr : RvD K r x y z) (h : P.nx (ρ.set i (.im z))) : Ws K E (tAug i te r) ρ P := fun M T0 H T σ Dn en k => by
  obtain ⟨v, h1, h2⟩ := en.get e
  refine ⟨v, h1, hv M T0 H T σ [] _ en fun w H1 T1 s1 t1 e1 i1 => hr H1 T1 v w _ e1.same (h2.up s1) i1 fun u iu => k.nx _ _ H1 T1 h s1 (e1.set iu)⟩
/-! raising calls -/
def okSl (P : Rho → Prop) (ρ : Rho) (i : Nat) : Sl → Prop
  | .no => False
  | s => P (ρ.set i s)
theorem ws_asgX {Pr : PrD} (ha : EvA K tr ρ ds) (hi : i < ρ.length) (h : Pr ds (okSl P.nx ρ i) P.ex) : Ws K E (tAsg (tCall (spD K Pr) [] E tr) (gName i)) ρ P := fun M T0 H T σ Dn en k =>
  ha M T0 H T σ [] _ en fun vs H1 T1 s1 t1 e1 i1 => by
    obtain ⟨L, r, o, f⟩ := e1.ex
    show spD K Pr (vs ++ []) T1 _ E
    rw [List.append_nil]
    refine ⟨L ++ M, H1, ds, _, _, o, i1, h, fun s v H' T' hs s' t' hr => ?_, fun c ns es od H' T' hz s' t' o' hx => k.ex c ns es od H' T' hz (s1.trans s') (e1.t0.trans t') (o'.sub (List.sublist_append_right _ _)) hx⟩
    cases s with
    | no => exact hs.elim
    | im d =>
      obtain ⟨e2, iz⟩ := e1.ret_im (X := []) r f s' t' hr
      exact k.nx _ _ H' T' hs (s1.trans s') (e2.set iz)
    | ow l =>
      obtain ⟨p, us, rfl, e2, iz⟩ := e1.ret_ow (X := []) r f s' t' hr
      exact k.nx _ _ H' T' hs (s1.trans s') (e2.setO hi iz)
    | cl d =>
      obtain ⟨Lc, e2, iz⟩ := e1.ret_cl (X := []) r f s' t' hr
      exact k.nx _ _ H' T' hs (s1.trans s') (e2.setC hi iz)
theorem ws_dropX {Pr : PrD} (ha : EvA K tr ρ ds) (h : Pr ds (fun s => s ≠ .no → P.nx ρ) P.ex) : Ws K E (tDrop (tCall (spD K Pr) [] E tr)) ρ P := fun M T0 H T σ Dn en k =>
  ha M T0 H T σ [] _ en fun vs H1 T1 s1 t1 e1 i1 => by
    obtain ⟨L, r, o, f⟩ := e1.ex
    show spD K Pr (vs ++ []) T1 _ E
    rw [List.append_nil]
    refine ⟨L ++ M, H1, ds, _, _, o, i1, h, fun s v H' T' hs s' t' hr => ?_, fun c ns es od H' T' hz s' t' o' hx => k.ex c ns es od H' T' hz (s1.trans s') (e1.t0.trans t') (o'.sub (List.sublist_append_right _ _)) hx⟩
    cases s with
    | no => exact hr.elim
    | im d =>
      obtain ⟨e2, iz⟩ := e1.ret_im (X := []) r f s' t' hr
      exact k.nx _ _ H' T' (hs (fun z => by cases z)) (s1.trans s') e2
    | ow l =>
      obtain ⟨p, us, rfl, e2, iz⟩ := e1.ret_ow (X := []) r f s' t' hr
      exact k.nx _ _ H' T' (hs (fun z => by cases z)) (s1.trans s') (e2.sub (List.nil_sublist _))
    | cl d =>
      obtain ⟨Lc, e2, iz⟩ := e1.ret_cl (X := []) r f s' t' hr
      exact k.nx _ _ H' T' (hs (fun z => by cases z)) (s1.trans s') (e2.sub (List.nil_sublist _))
theorem ws_retX {Pr : PrD} (ha : EvA K tr ρ ds) (h : Pr ds P.rt P.ex) : Ws K E (tRet (tCall (spD K Pr) [] E tr)) ρ P := fun M T0 H T σ Dn en k =>
  ha M T0 H T σ [] _ en fun vs H1 T1 s1 t1 e1 i1 => by
    obtain ⟨L, r, o, f⟩ := e1.ex
    show spD K Pr (vs ++ []) T1 _ E
    rw [List.append_nil]
    refine ⟨L ++ M, H1, ds, _, _, o, i1, h, fun s v H' T' hs s' t' hr => ?_, fun c ns es od H' T' hz s' t' o' hx => k.ex c ns es od H' T' hz (s1.trans s') (e1.t0.trans t') (o'.sub (List.sublist_append_right _ _)) hx⟩
    refine k.rt s v H' T' hs (s1.trans s') (e1.t0.trans t') ?_
    cases s with
    | no => exact hr
    | im d => exact ⟨hr.1, hr.2.sub (List.sublist_append_right _ _)⟩
    | ow l =>
      obtain ⟨p, us, rfl, h1, h2, h3⟩ := hr
      exact ⟨p, us, rfl, h1, h2.sub ((List.sublist_append_right _ _).cons_cons _), e1.t0.free h3⟩
    | cl d =>
      obtain ⟨Lc, h1, h2, h3⟩ := hr
      exact ⟨Lc, h1, h2.sub ((List.Sublist.refl Lc).append (List.sublist_append_right _ _)), fun x hx => e1.t0.free (h3 x hx)⟩
end

/-! ### what is walked -/
def Grow (H T H' T' : Hp) : Prop := (H' = H ∧ T' = T) ∨ ∃ a o, T a = none ∧ T' = upd T a o ∧ H' = upd H a o
def JD (K : PySem.W.Frag) (H1 : Hp) (J : It) (l : List D) : Prop := ∀ (i : Nat) (H T : Hp), Same H1 H → Same H T →
  (∀ d, l[i]? = some d → J.go i T ∧ ∀ x T', J.yld i T x T' → ∃ H', Grow H T H' T' ∧ Is K H' d x) ∧ (l.length ≤ i → J.stop i T)
def SrcD (K : PySem.W.Frag) (wi : TI) (ρ : Rho) (l : List D) : Prop := ∀ (M : Op) (T0 H T : Hp) (σ : L2.St) (X : Op) (R : It → Hp → Prop), EnX K M T0 H T σ ρ X → (∀ J H' T', Same H H' → Same T T' → EnX K M T0 H' T' σ ρ X → JD K H' J l → R J T') → wi σ T R
section
variable {K : PySem.W.Frag} {E : XK} {ρ : Rho} {P : Pst} {M X : Op} {T0 H H' T T' : Hp} {σ : L2.St} {Dn : Ends} {te tl : TE} {t u tb : TS} {tt : TT} {d x y : D} {l : List D} {ds : List D} {ta : TA} {g : TG} {i : Nat} {wi : TI}
theorem EnX.grow (h : EnX K M T0 H T σ ρ X) (gr : Grow H T H' T') : Same H H' ∧ Same T T' ∧ EnX K M T0 H' T' σ ρ X := by
  rcases gr with ⟨rfl, rfl⟩ | ⟨a, o, ha, rfl, rfl⟩
  · exact ⟨Same.refl _, Same.refl _, h⟩
  · exact ⟨(h.new ha).1, same_new ha, (h.new ha).2⟩
theorem src_list (h : EvD K tl ρ (.lst l)) : SrcD K (iList K tl) ρ l := fun M T0 H T σ X R e q =>
  h M T0 H T σ X _ e fun v H1 T1 s1 t1 e1 ⟨a, vs, ev, h1, h2⟩ => by
    subst ev
    refine ⟨a, rfl, ⟨vs, .inl (.inl (e1.same _ _ h1))⟩, q _ H1 T1 s1 t1 e1 fun i H2 T2 sa sb => ⟨fun d hd => ?_, fun hl => ⟨vs, .inl (.inl (sb _ _ (sa _ _ h1))), by rw [h2.len]; exact hl⟩⟩⟩
    obtain ⟨v, g1, g2⟩ := h2.get hd
    have hq : SqL K T2 a vs := .inl (.inl (sb _ _ (sa _ _ h1)))
    refine ⟨⟨vs, v, hq, g1⟩, fun x T' ⟨e1, e2⟩ => ⟨H2, .inl ⟨rfl, e1⟩, ?_⟩⟩
    have := e2 vs hq
    rw [g1] at this
    cases this
    exact g2.up sa
theorem src_tup (h : EvD K tl ρ (.tup l)) : SrcD K (iTup K tl) ρ l := fun M T0 H T σ X R e q =>
  h M T0 H T σ X _ e fun v H1 T1 s1 t1 e1 ⟨a, vs, ev, h1, h2⟩ => by
    subst ev
    refine ⟨a, rfl, ⟨vs, same_t e1.same h1⟩, q _ H1 T1 s1 t1 e1 fun i H2 T2 sa sb => ⟨fun d hd => ?_, fun hl => ⟨vs, same_t (sa.trans sb) h1, by rw [h2.len]; exact hl⟩⟩⟩
    obtain ⟨v, g1, g2⟩ := h2.get hd
    have hq : SqT K T2 a vs := same_t (sa.trans sb) h1
    refine ⟨⟨vs, v, hq, g1⟩, fun x T' ⟨e1, e2⟩ => ⟨H2, .inl ⟨rfl, e1⟩, ?_⟩⟩
    have := e2 vs hq
    rw [g1] at this
    cases this
    exact g2.up sa
theorem src_scr {ns : List Int} (h : EvD K tl ρ (.scr ns)) : SrcD K (iList K tl) ρ (ns.map .int) := fun M T0 H T σ X R e q =>
  h M T0 H T σ X _ e fun v H1 T1 s1 t1 e1 ⟨a, ev, h1⟩ => by
    subst ev
    refine ⟨a, rfl, ⟨_, e1.same.seq h1⟩, q _ H1 T1 s1 t1 e1 fun i H2 T2 sa sb => ⟨fun d hd => ?_, fun hl => ⟨_, (sa.trans sb).seq h1, by rw [List.length_map] at hl ⊢; exact hl⟩⟩⟩
    have hq : SqL K T2 a (ns.map V.int) := (sa.trans sb).seq h1
    rw [List.getElem?_map] at hd
    cases hn : ns[i]? with
    | none => rw [hn] at hd; cases hd
    | some n =>
      rw [hn] at hd
      cases hd
      refine ⟨⟨_, .int n, hq, by rw [List.getElem?_map, hn]; rfl⟩, fun x T' ⟨e1, e2⟩ => ⟨H2, .inl ⟨rfl, e1⟩, ?_⟩⟩
      have := e2 _ hq
      rw [List.getElem?_map, hn] at this
      cases this
      exact rfl
/-- lo, lo + 1, .. -/
def rng (lo : Int) (n : Nat) : List D := (List.range n).map fun (k : Nat) => D.int (lo + (k : Int))
theorem rng_len {lo : Int} {n : Nat} : (rng lo n).length = n := by simp [rng]
theorem rng_get {lo : Int} {n i : Nat} {d : D} (h : (rng lo n)[i]? = some d) : i < n ∧ d = .int (lo + (i : Int)) := by
  unfold rng at h
  rw [List.getElem?_map] at h
  by_cases hi : i < n
  · rw [List.getElem?_range hi] at h
    cases h
    exact ⟨hi, rfl⟩
  · rw [List.getElem?_eq_none (by simpa using hi)] at h
    cases h
theorem jd_rng {lo : Int} {n : Nat} : JD K H (Itr lo n) (rng lo n) := fun i H2 T2 sa sb =>
  ⟨fun d hd => ⟨(rng_get hd).1, fun x T' ⟨e1, e2⟩ => ⟨H2, .inl ⟨rfl, e1⟩, by rw [(rng_get hd).2, e2]; exact rfl⟩⟩, fun hl => by rw [rng_len] at hl; exact hl⟩
theorem src_rng1 {n : Int} (h : EvA K ta ρ [.int n]) (hn : -1000000 ≤ n ∧ n ≤ 1000000) : SrcD K (iRng1 ta) ρ (rng 0 n.toNat) := fun M T0 H T σ X R e q =>
  h M T0 H T σ X _ e fun vs H1 T1 s1 t1 e1 hv => by
    obtain ⟨v, rfl, hu⟩ := isL_one hv
    exact ⟨n, by rw [show v = V.int n from hu], by omega, by omega, q _ H1 T1 s1 t1 e1 jd_rng⟩
theorem src_rng2 {lo n : Int} (h : EvA K ta ρ [.int lo, .int n]) (hn : -1000000 ≤ lo ∧ lo ≤ 1000000 ∧ -1000000 ≤ n ∧ n ≤ 1000000) : SrcD K (iRng2 ta) ρ (rng lo (n - lo).toNat) := fun M T0 H T σ X R e q =>
  h M T0 H T σ X _ e fun vs H1 T1 s1 t1 e1 hv => by
    obtain ⟨v, w, rfl, hu, hw⟩ := isL_two hv
    exact ⟨lo, n, by rw [show v = V.int lo from hu, show w = V.int n from hw], ⟨by omega, by omega, by omega, by omega⟩, q _ H1 T1 s1 t1 e1 jd_rng⟩

/-! ### targets -/
def setD (ρ : Rho) : List (Nat × D) → Rho
  | [] => ρ
  | (i, d) :: r => setD (ρ.set i (.im d)) r
def setV (σ : L2.St) : List (Nat × D) → List V → L2.St
  | (i, _) :: r, v :: vs => setV (σ.set i (some v)) r vs
  | _, _ => σ
theorem EnX.setAll : ∀ {as : List (Nat × D)} {vs : List V} {σ : L2.St} {ρ : Rho}, EnX K M T0 H T σ ρ X → IsL K H (as.map (·.2)) vs → EnX K M T0 H T (setV σ as vs) (setD ρ as) X
  | [], vs, σ, ρ, h, _ => by
    cases vs <;> exact h
  | (i, d) :: r, _, σ, ρ, h, ⟨v, vs, e, h1, h2⟩ => by
    rw [e]
    exact EnX.setAll (as := r) (h.set h1) h2
/-- the target takes d apart into these slots -/
def GDs (K : PySem.W.Frag) (g : TG) (d : D) (as : List (Nat × D)) : Prop := ∀ (H T : Hp) (σ : L2.St) (v : V) (Q : L2.St → Hp → Prop), Same H T → Is K H d v → (∀ vs, IsL K H (as.map (·.2)) vs → Q (setV σ as vs) T) → g v σ T Q
theorem gd_name {j : Nat} : GDs K (gName j) d [(j, d)] := fun H T σ v Q s h q => q [v] (.one h)
def GTs (K : PySem.W.Frag) (g : TGs) (ds : List D) (as : List (Nat × D)) : Prop := ∀ (H T : Hp) (σ : L2.St) (vs : List V) (Q : L2.St → Hp → Prop), Same H T → IsL K H ds vs → (∀ us, IsL K H (as.map (·.2)) us → Q (setV σ as us) T) → g vs σ T Q
theorem gt_nil : GTs K gNil [] [] := fun H T σ vs Q s h q => ⟨h, q [] rfl⟩
theorem setV_app : ∀ (as bs : List (Nat × D)) (us ws : List V) (σ : L2.St), us.length = as.length → setV (setV σ as us) bs ws = setV σ (as ++ bs) (us ++ ws)
  | [], bs, [], ws, σ, _ => rfl
  | (i, d) :: r, bs, u :: us, ws, σ, h => setV_app r bs us ws (σ.set i (some u)) (by simpa using h)
  | [], _, _ :: _, _, _, h => by simp at h
  | _ :: _, _, [], _, _, h => by simp at h
theorem gt_cons {g1 : TG} {gr : TGs} {as bs : List (Nat × D)} (h1 : GDs K g1 d as) (h2 : GTs K gr ds bs) : GTs K (gCons g1 gr) (d :: ds) (as ++ bs) := fun H T σ vs Q s ⟨v, r, e, i1, i2⟩ q => by
  refine ⟨v, r, e, h1 H T σ v _ s i1 fun us hu => h2 H T _ r _ s i2 fun ws hw => ?_⟩
  rw [setV_app as bs us ws σ (by rw [hu.len, List.length_map])]
  exact q (us ++ ws) (by rw [List.map_append]; exact hu.app hw)
theorem gd_tup {gr : TGs} {n : Nat} {as : List (Nat × D)} (h : GTs K gr ds as) (hn : ds.length = n) : GDs K (gTup K n gr) (.tup ds) as := fun H T σ v Q s ⟨a, vs, e, h1, h2⟩ q =>
  ⟨a, vs, e, same_t s h1, by rw [h2.len]; exact hn, h H T σ vs Q s h2 q⟩
theorem gd_tup2 {i j : Nat} {d1 d2 : D} : GDs K (gTup K 2 (gCons (gName i) (gCons (gName j) gNil))) (.tup [d1, d2]) [(i, d1), (j, d2)] := gd_tup (gt_cons gd_name (gt_cons gd_name gt_nil)) rfl
theorem gd_tup3 {i j k : Nat} {d1 d2 d3 : D} : GDs K (gTup K 3 (gCons (gName i) (gCons (gName j) (gCons (gName k) gNil)))) (.tup [d1, d2, d3]) [(i, d1), (j, d2), (k, d3)] := gd_tup (gt_cons gd_name (gt_cons gd_name (gt_cons gd_name gt_nil))) rfl
theorem ws_asgG {as : List (Nat × D)} (hv : EvD K te ρ d) (hg : GDs K g d as) (h : P.nx (setD ρ as)) : Ws K E (tAsg te g) ρ P := fun M T0 H T σ Dn e k =>
  hv M T0 H T σ [] _ e fun v H' T' s t' e' iv => hg H' T' σ v _ e'.same iv fun us hu => k.nx _ _ H' T' h s (e'.setAll hu)

/-! ### for -/
theorem ws_for (hs : SrcD K wi ρ l) (Iv : Nat → Rho → Prop) (h0 : Iv 0 ρ)
    (hb : ∀ i d ρ', l[i]? = some d → Iv i ρ' → ∃ as, GDs K g d as ∧ Ws K E tb (setD ρ' as) { P with nx := Iv (i + 1), ct := Iv (i + 1), bk := P.nx })
    (hd : ∀ ρ', Iv l.length ρ' → P.nx ρ') : Ws K E (tFor wi g tb) ρ P := fun M T0 H T σ Dn e k =>
  hs M T0 H T σ [] _ e fun J H1 T1 s1 t1 e1 hj => by
    refine ⟨fun i m σ' T' => m + i = l.length ∧ ∃ H' ρ', Same H1 H' ∧ En K M T0 H' T' σ' ρ' ∧ Iv i ρ', ⟨l.length, by omega, H1, ρ, Same.refl _, e1, h0⟩, ?_⟩
    rintro i m σ' T' ⟨hm, H', ρ', s', e', iv⟩
    obtain ⟨hgo, hstop⟩ := hj i H' T' s' e'.same
    by_cases hi : i < l.length
    · obtain ⟨d, hd1⟩ := get_some hi
      obtain ⟨g1, g2⟩ := hgo d hd1
      refine .inr ⟨g1, fun σ2 T2 => ∃ H2 ρ2, Same H1 H2 ∧ En K M T0 H2 T2 σ2 ρ2 ∧ Iv (i + 1) ρ2, fun σ2 T2 ⟨H2, ρ2, a, b, c⟩ => ⟨m - 1, by omega, by omega, H2, ρ2, a, b, c⟩, fun x T2 hy => ?_⟩
      obtain ⟨H2, gr, ix⟩ := g2 x T2 hy
      obtain ⟨s2, tg, e2⟩ := e'.grow gr
      obtain ⟨as, ga, hw⟩ := hb i d ρ' hd1 iv
      refine ga H2 T2 σ' x _ e2.same ix fun us hu => hw M T0 H2 T2 _ _ (e2.setAll hu) ?_
      have kk := k.up (s1.trans (s'.trans s2))
      exact ⟨fun ρ3 σ3 H3 T3 p s3 e3 => ⟨H3, ρ3, s'.trans (s2.trans s3), e3, p⟩, kk.rt, fun ρ3 σ3 H3 T3 p s3 e3 => kk.nx _ _ _ _ p s3 e3, fun ρ3 σ3 H3 T3 p s3 e3 => ⟨H3, ρ3, s'.trans (s2.trans s3), e3, p⟩, kk.ex⟩
    · have ei : i = l.length := by omega
      subst ei
      exact .inl ⟨hstop (Nat.le_refl _), k.nx _ _ _ _ (hd ρ' iv) (s1.trans s') e'⟩
/-- while, by an invariant with a measure -/
theorem ws_while (Iv : Nat → Rho → Prop) (m0 : Nat) (h0 : Iv m0 ρ)
    (hb : ∀ m ρ', Iv m ρ' → ∃ b, EvT K tt ρ' b ∧ (b = true → Ws K E tb ρ' { P with nx := fun ρ2 => ∃ m', m' < m ∧ Iv m' ρ2, ct := fun ρ2 => ∃ m', m' < m ∧ Iv m' ρ2, bk := P.nx }) ∧ (b = false → P.nx ρ')) : Ws K E (tWhile tt tb) ρ P := fun M T0 H T σ Dn e k => by
  refine ⟨fun m σ' T' => ∃ H' ρ', Same H H' ∧ En K M T0 H' T' σ' ρ' ∧ Iv m ρ', ⟨m0, H, ρ, Same.refl _, e, h0⟩, ?_⟩
  rintro m σ' T' ⟨H', ρ', s', e', iv⟩
  obtain ⟨b, hc, h1, h2⟩ := hb m ρ' iv
  refine hc M T0 H' T' σ' [] _ e' fun H2 T2 s2 t2 e2 => ?_
  cases b with
  | true =>
    refine ⟨fun σ3 T3 => ∃ m', m' < m ∧ ∃ H3 ρ3, Same H H3 ∧ En K M T0 H3 T3 σ3 ρ3 ∧ Iv m' ρ3, fun σ3 T3 ⟨m', hm, z⟩ => ⟨m', hm, z⟩, ?_⟩
    refine h1 rfl M T0 H2 T2 σ' _ e2 ?_
    have kk := k.up (s'.trans s2)
    exact ⟨fun ρ3 σ3 H3 T3 ⟨m', hm, p⟩ s3 e3 => ⟨m', hm, H3, ρ3, s'.trans (s2.trans s3), e3, p⟩, kk.rt, fun ρ3 σ3 H3 T3 p s3 e3 => kk.nx _ _ _ _ p s3 e3, fun ρ3 σ3 H3 T3 ⟨m', hm, p⟩ s3 e3 => ⟨m', hm, H3, ρ3, s'.trans (s2.trans s3), e3, p⟩, kk.ex⟩
  | false =>
    show Dn.nx σ' T2
    exact k.nx _ _ _ _ (h2 rfl) (s'.trans s2) e2

/-! ### comprehensions -/
def wipeD (ρ : Rho) : List Nat → Rho
  | [] => ρ
  | v :: vs => (wipeD ρ vs).set v .no
def isOw : Option Sl → Bool
  | some (.ow _) => true
  | some (.cl _) => true
  | _ => false
theorem EnR.merge : ∀ {ρ ρ2 : Rho} {σ σ2 : L2.St} {L L2 : Op}, EnR K H ρ σ L → Same H H' → EnR K H' ρ2 σ2 L2 → ρ2.length = ρ.length → (∀ i : Nat, (ρ2[i]? = ρ[i]? ∧ σ2[i]? = σ[i]?) ∨ (isOw ρ[i]? = false ∧ isOw ρ2[i]? = false)) → EnR K H' ρ σ L2
  | [], ρ2, σ, σ2, L, L2, h, s, h2, hl, hp => by
    cases h
    have : ρ2 = [] := List.length_eq_zero_iff.mp hl
    subst this
    cases h2
    exact .nil
  | a :: ρ, [], σ, σ2, L, L2, h, s, h2, hl, hp => by simp at hl
  | a :: ρ, b :: ρ2, [], σ2, L, L2, h, s, h2, hl, hp => by cases h
  | a :: ρ, b :: ρ2, x :: σ, [], L, L2, h, s, h2, hl, hp => by cases h2
  | a :: ρ, b :: ρ2, x :: σ, y :: σ2, L, L2, h, s, h2, hl, hp => by
    have hl' : ρ2.length = ρ.length := by simpa using hl
    have tl : ∀ {L L2 : Op}, EnR K H ρ σ L → EnR K H' ρ2 σ2 L2 → EnR K H' ρ σ L2 := fun h h2 => EnR.merge h s h2 hl' fun i => by simpa using hp (i + 1)
    rcases hp 0 with ⟨e1, e2⟩ | ⟨e1, e2⟩
    · have ea : b = a := Option.some.inj e1
      have ex : y = x := Option.some.inj e2
      subst ea ex
      cases h2 with
      | no h2 => cases h with | no h => exact .no (tl h h2)
      | im i2 h2 => cases h with | im _ h => exact .im i2 (tl h h2)
      | ow i2 h2 => cases h with | ow _ h => exact .ow i2 (tl h h2)
      | cl i2 h2 => cases h with | cl _ h => exact .cl i2 (tl h h2)
    · have t2 : ∃ L3, L2 = L3 ∧ EnR K H' ρ2 σ2 L3 := by
        cases h2 with
        | no h2 => exact ⟨_, rfl, h2⟩
        | im i2 h2 => exact ⟨_, rfl, h2⟩
        | ow i2 h2 => cases e2
        | cl i2 h2 => cases e2
      obtain ⟨L3, rfl, h3⟩ := t2
      cases h with
      | no h => exact .no (tl h h3)
      | im ia h => exact .im (ia.up s) (tl h h3)
      | ow ia h => cases e1
      | cl ia h => cases e1
theorem wipeD_len (ρ : Rho) : ∀ vs, (wipeD ρ vs).length = ρ.length
  | [] => rfl
  | v :: vs => by unfold wipeD; rw [List.length_set, wipeD_len ρ vs]
theorem setD_len : ∀ (as : List (Nat × D)) (ρ : Rho), (setD ρ as).length = ρ.length
  | [], _ => rfl
  | (i, d) :: r, ρ => by unfold setD; rw [setD_len r, List.length_set]
theorem wipeD_out {i : Nat} : ∀ {vs : List Nat}, i ∉ vs → (wipeD ρ vs)[i]? = ρ[i]?
  | [], _ => rfl
  | v :: vs, h => by
    have h1 : v ≠ i := fun e => h (by simp [e])
    unfold wipeD
    rw [List.getElem?_set_ne h1]
    exact wipeD_out fun z => h (List.mem_cons_of_mem _ z)
theorem setD_out {i : Nat} : ∀ {as : List (Nat × D)} {ρ : Rho}, i ∉ as.map (·.1) → (setD ρ as)[i]? = ρ[i]?
  | [], _, _ => rfl
  | (j, d) :: r, ρ, h => by
    have h1 : j ≠ i := fun e => h (by simp [e])
    unfold setD
    rw [setD_out (as := r) (fun z => h (by simp [z])), List.getElem?_set_ne h1]
theorem setV_out {i : Nat} : ∀ {as : List (Nat × D)} {us : List V} {σ : L2.St}, i ∉ as.map (·.1) → (setV σ as us)[i]? = σ[i]?
  | [], us, _, _ => by cases us <;> rfl
  | (j, d) :: r, [], _, _ => rfl
  | (j, d) :: r, u :: us, σ, h => by
    have h1 : j ≠ i := fun e => h (by simp [e])
    unfold setV
    rw [setV_out (as := r) (fun z => h (by simp [z])), List.getElem?_set_ne h1]
theorem wipeD_in {i : Nat} : ∀ {vs : List Nat}, i ∈ vs → isOw (wipeD ρ vs)[i]? = false
  | v :: vs, h => by
    unfold wipeD
    by_cases e : v = i
    · subst e
      by_cases hv : v < (wipeD ρ vs).length
      · rw [List.getElem?_set_self hv] <;> rfl
      · rw [List.getElem?_eq_none (by simpa using hv)] <;> rfl
    · rw [List.getElem?_set_ne e]
      exact wipeD_in ((List.mem_cons.mp h).resolve_left fun z => e z.symm)
theorem setD_ow {i : Nat} : ∀ {as : List (Nat × D)} {ρ : Rho}, isOw ρ[i]? = false → isOw (setD ρ as)[i]? = false
  | [], _, h => h
  | (j, d) :: r, ρ, h => by
    unfold setD
    refine setD_ow (as := r) ?_
    by_cases e : j = i
    · subst e
      by_cases hv : j < ρ.length
      · rw [List.getElem?_set_self hv] <;> rfl
      · rw [List.getElem?_eq_none (by simpa using hv)] <;> rfl
    · rw [List.getElem?_set_ne e]
      exact h
theorem wipe_idem (σ : L2.St) : ∀ vs, ∀ i : Nat, (wipe σ vs)[i]? = if i ∈ vs then (σ[i]?).map (fun _ => none) else σ[i]?
  | [], i => by simp [wipe]
  | v :: vs, i => by
    unfold wipe
    by_cases e : v = i
    · subst e
      rw [if_pos List.mem_cons_self, List.getElem?_set_self', wipe_idem σ vs v]
      split <;> (cases σ[v]? <;> rfl)
    · rw [List.getElem?_set_ne e, wipe_idem σ vs i]
      by_cases h : i ∈ vs
      · rw [if_pos h, if_pos (List.mem_cons_of_mem _ h)]
      · rw [if_neg h, if_neg fun z => h ((List.mem_cons.mp z).resolve_left fun q => e q.symm)]
theorem setV_len : ∀ (as : List (Nat × D)) (us : List V) (σ : L2.St), (setV σ as us).length = σ.length
  | [], us, _ => by cases us <;> rfl
  | (i, d) :: r, [], _ => rfl
  | (i, d) :: r, u :: us, σ => by unfold setV; rw [setV_len r, List.length_set]
theorem map_none_eq {a b : Option (Option V)} (h : a.isSome = b.isSome) : a.map (fun _ => (none : Option V)) = b.map fun _ => none := by
  cases a <;> cases b <;> simp_all
theorem wipe_setV {as : List (Nat × D)} {us : List V} {vs : List Nat} (hs : ∀ i ∈ as.map (·.1), i ∈ vs) : wipe (setV (wipe σ vs) as us) vs = wipe σ vs := by
  refine List.ext_getElem? fun i => ?_
  rw [wipe_idem, wipe_idem]
  by_cases h : i ∈ vs
  · rw [if_pos h, if_pos h]
    refine map_none_eq ?_
    have l1 : (setV (wipe σ vs) as us).length = σ.length := by rw [setV_len, wipe_length]
    by_cases hi : i < σ.length
    · rw [List.getElem?_eq_getElem (by omega), List.getElem?_eq_getElem hi] <;> rfl
    · rw [List.getElem?_eq_none (by omega), List.getElem?_eq_none (by omega)]
  · rw [if_neg h, if_neg h, setV_out (fun z => h (hs i z)), wipe_idem, if_neg h]
theorem EnX.wipe {vs : List Nat} (hv : ∀ i ∈ vs, isOw ρ[i]? = false) (h : EnX K M T0 H T σ ρ X) : EnX K M T0 H T (wipe σ vs) (wipeD ρ vs) X := by
  induction vs with
  | nil => exact h
  | cons v vs ih => exact (ih fun i hi => hv i (List.mem_cons_of_mem _ hi)).drop
theorem EnX.unwipe {vs : List Nat} {as : List (Nat × D)} {us : List V} {M' : Op} (hv : ∀ i ∈ vs, isOw ρ[i]? = false) (ha : ∀ i ∈ as.map (·.1), i ∈ vs) (h0 : EnX K M T0 H T σ ρ X) (s : Same H H') {X' : Op} (h : EnX K M T0 H' T' (setV (L2.wipe σ vs) as us) (setD (wipeD ρ vs) as) X') : EnX K M T0 H' T' σ ρ X' := by
  obtain ⟨L, r, q, f⟩ := h0.ex
  obtain ⟨L2, r2, q2, f2⟩ := h.ex
  refine ⟨⟨L2, r.merge s r2 (by rw [setD_len, wipeD_len]) fun i => ?_, q2, f2⟩, h.t0⟩
  by_cases hi : i ∈ vs
  · exact .inr ⟨hv i hi, setD_ow (wipeD_in hi)⟩
  · have hn : i ∉ as.map (·.1) := fun z => hi (ha i z)
    refine .inl ⟨by rw [setD_out hn, wipeD_out hi], by rw [setV_out hn, wipe_idem, if_neg hi]⟩
theorem same_mut {A B : Hp} {p : Addr} {o : HO} (s : Same A B) (h : A p = none) : Same A (upd B p o) := fun b x e => by
  rw [upd_ne (ne_of_none e h)]
  exact s b x e
theorem evo_lc {α : Type} {xs : List α} {enc : α → D} {vs : List Nat} (f : α → Bool) (e : α → D) (hs : SrcD K wi ρ (xs.map enc)) (hv : ∀ i ∈ vs, isOw ρ[i]? = false)
    (ht : ∀ d ∈ xs, ∃ as, GDs K g (enc d) as ∧ (∀ i ∈ as.map (·.1), i ∈ vs) ∧ EvT K tt (setD (wipeD ρ vs) as) (f d) ∧ (f d = true → EvD K te (setD (wipeD ρ vs) as) (e d))) (hz : xs.length ≤ 100000) :
    EvO K (tLc wi g tt te vs) ρ ((xs.filter f).map e) := fun M T0 H T σ X Q en q =>
  hs M T0 H T σ X _ en fun J H1 T1 s1 t1 e1 hj D hD => by
    refine ⟨fun i m T' => m + i = xs.length ∧ Same T1 T' ∧ ∃ H' us, Same H1 H' ∧ EnX K M T0 H' T' σ ρ ((D, .lst us) :: X) ∧ IsL K H' (((xs.take i).filter f).map e) us, ⟨xs.length, by omega, same_new hD, H1, [], Same.refl _, e1.opened hD, rfl⟩, ?_⟩
    rintro i m T' ⟨hm, tt1, H', us, s', e', iu⟩
    obtain ⟨hgo, hstop⟩ := hj i H' T' s' e'.same
    by_cases hi : i < xs.length
    · obtain ⟨d, hd1⟩ := get_some hi
      obtain ⟨g1, g2⟩ := hgo (enc d) (by rw [List.getElem?_map, hd1]; rfl)
      refine .inr ⟨g1, fun T2 => Same T1 T2 ∧ ∃ H2 ws, Same H1 H2 ∧ EnX K M T0 H2 T2 σ ρ ((D, .lst ws) :: X) ∧ IsL K H2 (((xs.take (i + 1)).filter f).map e) ws, fun T2 ⟨z, H2, ws, a, b, c⟩ => ⟨m - 1, by omega, by omega, z, H2, ws, a, b, c⟩, fun x T2 hy => ?_⟩
      obtain ⟨H2, gr, ix⟩ := g2 x T2 hy
      obtain ⟨s2, tg, e2⟩ := e'.grow gr
      obtain ⟨as, ga, hsub, hT, hE⟩ := ht d (List.mem_of_getElem? hd1)
      have e3 := e2.wipe hv
      refine ga H2 T2 _ x _ e3.same ix fun ws hw => ⟨wipe_setV hsub, ?_⟩
      have e4 := e3.setAll hw
      have tk : xs.take (i + 1) = xs.take i ++ [d] := by
        rw [List.take_add_one, hd1]
        rfl
      refine hT M T0 H2 T2 _ _ _ e4 fun H5 T5 s5 t5 e5 => ?_
      cases hf : f d with
      | true =>
        refine hE hf M T0 H5 T5 _ _ _ e5 fun v H6 T6 s6 t6 e6 iv => ?_
        have e7 := EnX.unwipe hv hsub e2 (s5.trans s6) (M' := M) e6
        refine ⟨us, e7.at_, ?_, same_mut (tt1.trans (tg.trans (t5.trans t6))) hD, H6, us ++ [v], s'.trans (s2.trans (s5.trans s6)), e7.write, ?_⟩
        · rw [iu.len, List.length_map]
          have h1 : ((xs.take i).filter f).length ≤ (xs.take i).length := List.length_filter_le _ _
          rw [List.length_take] at h1
          have h2 : (100000 : Nat) < sizeLine := by decide
          omega
        · rw [tk, List.filter_append, List.map_append, List.filter_cons, if_pos hf]
          exact (iu.up (s2.trans (s5.trans s6))).app (.one iv)
      | false =>
        show Same T1 T5 ∧ ∃ H2 ws, _
        have e7 := EnX.unwipe hv hsub e2 s5 (M' := M) e5
        refine ⟨tt1.trans (tg.trans t5), H5, us, s'.trans (s2.trans s5), e7, ?_⟩
        rw [tk, List.filter_append, List.map_append, List.filter_cons, if_neg (by rw [hf]; decide)]
        show IsL K H5 (_ ++ []) us
        rw [List.append_nil]
        exact iu.up (s2.trans s5)
    · have ei : i = xs.length := by omega
      subst ei
      rw [List.take_length] at iu
      exact .inl ⟨hstop (by rw [List.length_map]; exact Nat.le_refl _), q D us H' T' (s1.trans s') (t1.trans tt1) e' iu⟩
/-- without a test -/
theorem evo_map {α : Type} {xs : List α} {enc : α → D} {vs : List Nat} (e : α → D) (hs : SrcD K wi ρ (xs.map enc)) (hv : ∀ i ∈ vs, isOw ρ[i]? = false)
    (ht : ∀ d ∈ xs, ∃ as, GDs K g (enc d) as ∧ (∀ i ∈ as.map (·.1), i ∈ vs) ∧ EvD K te (setD (wipeD ρ vs) as) (e d)) (hz : xs.length ≤ 100000) :
    EvO K (tLc wi g tYes te vs) ρ (xs.map e) := by
  have h := evo_lc (tt := tYes) (te := te) (fun _ => true) e hs hv (fun d hd => by
    obtain ⟨as, a, b, c⟩ := ht d hd
    exact ⟨as, a, b, et_yes, fun _ => c⟩) hz
  have e1 : xs.filter (fun _ => true) = xs := by simp
  rw [e1] at h
  exact h

end

section
variable {K : PySem.W.Frag} {ρ : Rho} {te : TE} {tt : TT} {l : List D} {g : TG} {wi : TI}
/-- a comprehension of closed elements -/
theorem ec_lc {α : Type} {xs : List α} {enc : α → D} {vs : List Nat} (f : α → Bool) (e : α → D) (hs : SrcD K wi ρ (xs.map enc)) (hv : ∀ i ∈ vs, isOw ρ[i]? = false)
    (ht : ∀ d ∈ xs, ∃ as, GDs K g (enc d) as ∧ (∀ i ∈ as.map (·.1), i ∈ vs) ∧ EvT K tt (setD (wipeD ρ vs) as) (f d) ∧ (f d = true → EvC K te (setD (wipeD ρ vs) as) (e d))) (hz : xs.length ≤ 100000) :
    EvC K (tLc wi g tt te vs) ρ (.lst ((xs.filter f).map e)) := fun M T0 H T σ X Q en q =>
  hs M T0 H T σ X _ en fun J H1 T1 s1 t1 e1 hj D hD => by
    refine ⟨fun i m T' => m + i = xs.length ∧ Same T1 T' ∧ ∃ H' us Lc, Same H1 H' ∧ EnX K M T0 H' T' σ ρ ((D, .lst us) :: (Lc ++ X)) ∧ IsCL (((xs.take i).filter f).map e) us Lc, ⟨xs.length, by omega, same_new hD, H1, [], [], Same.refl _, e1.opened hD, rfl, rfl⟩, ?_⟩
    rintro i m T' ⟨hm, tt1, H', us, Lc, s', e', iu⟩
    obtain ⟨hgo, hstop⟩ := hj i H' T' s' e'.same
    by_cases hi : i < xs.length
    · obtain ⟨d, hd1⟩ := get_some hi
      obtain ⟨g1, g2⟩ := hgo (enc d) (by rw [List.getElem?_map, hd1]; rfl)
      refine .inr ⟨g1, fun T2 => Same T1 T2 ∧ ∃ H2 ws Lc, Same H1 H2 ∧ EnX K M T0 H2 T2 σ ρ ((D, .lst ws) :: (Lc ++ X)) ∧ IsCL (((xs.take (i + 1)).filter f).map e) ws Lc, fun T2 ⟨z, H2, ws, Lc, a, b, c⟩ => ⟨m - 1, by omega, by omega, z, H2, ws, Lc, a, b, c⟩, fun x T2 hy => ?_⟩
      obtain ⟨H2, gr, ix⟩ := g2 x T2 hy
      obtain ⟨s2, tg, e2⟩ := e'.grow gr
      obtain ⟨as, ga, hsub, hT, hE⟩ := ht d (List.mem_of_getElem? hd1)
      have e3 := e2.wipe hv
      refine ga H2 T2 _ x _ e3.same ix fun ws hw => ⟨wipe_setV hsub, ?_⟩
      have e4 := e3.setAll hw
      have tk : xs.take (i + 1) = xs.take i ++ [d] := by
        rw [List.take_add_one, hd1]
        rfl
      refine hT M T0 H2 T2 _ _ _ e4 fun H5 T5 s5 t5 e5 => ?_
      cases hf : f d with
      | true =>
        refine hE hf M T0 H5 T5 _ _ _ e5 fun v L' H6 T6 s6 t6 e6 iv => ?_
        have e7 := EnX.unwipe hv hsub e2 (s5.trans s6) (M' := M) e6
        have pm : List.Perm (L' ++ ((D, HO.lst us) :: (Lc ++ X))) ((D, HO.lst us) :: ((Lc ++ L') ++ X)) := by
          refine List.perm_middle.trans (List.Perm.cons _ ?_)
          rw [← List.append_assoc]
          exact List.perm_append_comm.append_right _
        have e8 := e7.perm pm
        refine ⟨us, e8.at_, ?_, same_mut (tt1.trans (tg.trans (t5.trans t6))) hD, H6, us ++ [v], Lc ++ L', s'.trans (s2.trans (s5.trans s6)), e8.write, ?_⟩
        · rw [iu.len, List.length_map]
          have h1 : ((xs.take i).filter f).length ≤ (xs.take i).length := List.length_filter_le _ _
          rw [List.length_take] at h1
          have h2 : (100000 : Nat) < sizeLine := by decide
          omega
        · rw [tk, List.filter_append, List.map_append, List.filter_cons, if_pos hf]
          exact iu.app (.one iv)
      | false =>
        show Same T1 T5 ∧ ∃ H2 ws Lc, _
        have e7 := EnX.unwipe hv hsub e2 s5 (M' := M) e5
        refine ⟨tt1.trans (tg.trans t5), H5, us, Lc, s'.trans (s2.trans s5), e7, ?_⟩
        rw [tk, List.filter_append, List.map_append, List.filter_cons, if_neg (by rw [hf]; decide)]
        show IsCL (_ ++ []) us Lc
        rw [List.append_nil]
        exact iu
    · have ei : i = xs.length := by omega
      subst ei
      rw [List.take_length] at iu
      exact .inl ⟨hstop (by rw [List.length_map]; exact Nat.le_refl _), q (.ref D) ((D, .lst us) :: Lc) H' T' (s1.trans s') (t1.trans tt1) e' ⟨D, us, Lc, rfl, rfl, iu⟩⟩
theorem ec_map {α : Type} {xs : List α} {enc : α → D} {vs : List Nat} (e : α → D) (hs : SrcD K wi ρ (xs.map enc)) (hv : ∀ i ∈ vs, isOw ρ[i]? = false)
    (ht : ∀ d ∈ xs, ∃ as, GDs K g (enc d) as ∧ (∀ i ∈ as.map (·.1), i ∈ vs) ∧ EvC K te (setD (wipeD ρ vs) as) (e d)) (hz : xs.length ≤ 100000) :
    EvC K (tLc wi g tYes te vs) ρ (.lst (xs.map e)) := by
  have h := ec_lc (tt := tYes) (te := te) (fun _ => true) e hs hv (fun d hd => by
    obtain ⟨as, a, b, c⟩ := ht d hd
    exact ⟨as, a, b, et_yes, fun _ => c⟩) hz
  have e1 : xs.filter (fun _ => true) = xs := by simp
  rw [e1] at h
  exact h

end

/-! ### a def -/
section
variable {K : PySem.W.Frag} {P : PrD} {vs : List V} {T : Hp} {Q : VK} {E : XK} {t : TS} {N : List Str}
theorem read_fn (h : spD K P vs T Q E) (hw : ∀ ds R Z, P ds R Z → Ws K E t (ds.map .im ++ List.replicate (N.length - ds.length) .no) { nx := fun _ => R (.im .non), rt := R, ex := Z }) :
    t { nx := fun _ H' => Q .non H', rt := Q } (L2.start N vs) T := by
  obtain ⟨M, H, ds, R, Z, o, hd, p, k1, k2⟩ := h
  have r := EnR.start hd (N.length - ds.length)
  have e : L2.start N vs = vs.map some ++ List.replicate (N.length - ds.length) none := by unfold L2.start; rw [hd.len]
  rw [e]
  refine hw ds R Z p M T H T _ _ ⟨⟨[], r, o, fun _ h => (nomatch h)⟩, Same.refl _⟩ ⟨fun ρ' σ' H' T' q s e' => k1 (.im .non) .non H' T' q s e'.t0 ⟨rfl, e'.frame⟩, fun s v H' T' q s' t' hr => k1 s v H' T' q s' t' hr, fun _ _ _ _ q => q.elim, fun _ _ _ _ q => q.elim, fun c ns es od H' T' q s' t' o' hx => k2 c ns es od H' T' q s' t' o' hx⟩
theorem len_fn {n : Nat} (hl : ∀ ds R Z, P ds R Z → ds.length = n) (h : spD K P vs T Q E) : vs.length = n := by
  obtain ⟨M, H, ds, R, Z, o, hd, p, _⟩ := h
  rw [hd.len]
  exact hl ds R Z p
end
end FS
set_option Elab.async false
set_option linter.all false
set_option maxRecDepth 100000
set_option maxHeartbeats 4000000
namespace FS
open PySem PySem.Spec PyProof.Rows L2

/-! ### operators, by what comes in -/
section
variable {X : Cx}
abbrev rStrCat : R2 := fun x y H Q => ∃ i j, x = .str i ∧ y = .str j ∧ i.length + j.length ≤ sizeLine ∧ Q (.str (i ++ j)) H
def rAddA (K : PySem.W.Frag) : R2 := fun x y H Q => rI0 (fun i j => .int (i + j)) x y H Q ∨ rCat x y H Q ∨ rStrCat x y H Q ∨ rCatT K x y H Q
theorem opAdd : OpR X (binaryOp .Add) (rAddA X.K) := op_add.or (op_cat.or (OpR.or op_add_str op_catT))
def rMulA : R2 := fun x y H Q => rI CMul (fun i j => .int (i * j)) x y H Q ∨ rI CMulW (fun i j => .int (i * j)) x y H Q ∨ rRep x y H Q
theorem opMul : OpR X (binaryOp .Mult) rMulA := op_mul.or (op_mulW.or op_rep)
def rSubA : R2 := rI0 fun i j => .int (i - j)
theorem opSub : OpR X (binaryOp .Sub) rSubA := op_sub
def rDivA : R2 := rI CDivW fun i j => .int (i / j)
theorem opDiv : OpR X (binaryOp .FloorDiv) rDivA := op_fdivW
def rModA : R2 := rI (fun _ j => 0 < j) fun i j => .int (i % j)
theorem opMod : OpR X (binaryOp .Mod) rModA := op_mod
def rPowA : R2 := rI CPow fun i j => .int (i ^ j.toNat)
theorem opPow : OpR X (binaryOp .Pow) rPowA := op_pow
def rLtA : R2 := rI0 fun i j => .bl (decide (i < j))
def rLeA : R2 := rI0 fun i j => .bl (decide (i ≤ j))
def rGtA : R2 := rI0 fun i j => .bl (decide (j < i))
def rGeA : R2 := rI0 fun i j => .bl (decide (j ≤ i))
theorem opLt : OpR X (compareOp .Lt) rLtA := op_lt
theorem opLe : OpR X (compareOp .LtE) rLeA := op_le
theorem opGt : OpR X (compareOp .Gt) rGtA := op_gt
theorem opGe : OpR X (compareOp .GtE) rGeA := op_ge
def rEqA (K : PySem.W.Frag) : R2 := fun x y H Q => rEq x y H Q ∨ rEqD K x y H Q
def rNeA (K : PySem.W.Frag) : R2 := fun x y H Q => rNe x y H Q ∨ rNeD K x y H Q
theorem opEq (hu : X.A.units + 64 < cLine) : OpR X (compareOp .Eq) (rEqA X.K) := op_eq.or (op_eqD hu)
theorem opNe (hu : X.A.units + 64 < cLine) : OpR X (compareOp .NotEq) (rNeA X.K) := op_ne.or (op_neD hu)
def rIsN : R2 := fun x y H Q => y = .non ∧ Q (.bl (decide (x = .non))) H
def rNotN : R2 := fun x y H Q => y = .non ∧ Q (.bl (!decide (x = .non))) H
theorem opIsN : OpR X (compareOp .Is) rIsN := op_isN
theorem opNotN : OpR X (compareOp .IsNot) rNotN := op_notN
def rNegA : V → Hp → VK → Prop := rU fun i => .int (-i)
theorem unNeg : UnR X (unaryOp .USub) rNegA := un_neg
def rLenS : List V → Hp → VK → Prop := fun xs H Q => ∃ z, xs = [.str z] ∧ z.length ≤ sizeLine ∧ Q (.int z.length) H
def rLenA (K : PySem.W.Frag) : List V → Hp → VK → Prop := fun xs H Q => rLen K xs H Q ∨ rLenS xs H Q
theorem cLen : CallR X (.builtin "len") (rLenA X.K) := call_len_seq.or call_len_str
def rIntA : List V → Hp → VK → Prop := fun xs H Q => (∃ i, xs = [.int i] ∧ Q (.int i) H) ∨ ∃ k, xs = [.bl k] ∧ Q (.int (if k then 1 else 0)) H
theorem cInt : CallR X (.type "int") rIntA := call_int1
def rAbsA : List V → Hp → VK → Prop := fun xs H Q => ∃ i, xs = [.int i] ∧ Q (.int (if i < 0 then -i else i)) H
theorem cAbs : CallR X (.builtin "abs") rAbsA := call_abs
def rListA (K : PySem.W.Frag) : List V → Hp → VK → Prop := fun xs H Q => ∃ p ys, xs = [.ref p] ∧ (SqL K H p ys ∨ SqT K H p ys) ∧ ∀ l, H l = none → Q (.ref l) (upd H l (.lst ys))
theorem cList : CallR X (.type "list") (rListA X.K) := call_list_of
/-- math.lcm, of numbers of at most 13500 bits -/
def CLcm (a b : Int) : Prop := 0 < a ∧ 0 < b ∧ a < 2 ^ 13499 ∧ b < 2 ^ 13499
def rLcmA : List V → Hp → VK → Prop := fun vs H Q => ∃ a b : Int, vs = [.int a, .int b] ∧ CLcm a b ∧ Q (.int ((Nat.lcm a.natAbs b.natAbs : Nat) : Int)) H
theorem lcm_small {a b : Nat} (ha : a < 2 ^ 13499) (hb : b < 2 ^ 13499) : (Nat.lcm a b).log2 < bitsLine := by
  have h1 : Nat.lcm a b ≤ a * b := by
    unfold Nat.lcm
    exact Nat.div_le_self _ _
  have h2 : a * b < 2 ^ 26998 := by
    have : a * b < 2 ^ 13499 * 2 ^ 13499 := Nat.mul_lt_mul'' ha hb
    rw [← Nat.pow_add] at this
    exact this
  have h3 : bitsLine = 134217728 := by decide
  by_cases h0 : Nat.lcm a b = 0
  · rw [h0, Nat.log2_zero, h3]
    decide
  · have := (Nat.log2_lt h0).mpr (Nat.lt_of_le_of_lt h1 h2)
    rw [h3]
    omega
theorem log_small {a : Nat} (ha : a < 2 ^ 13499) : ¬ a.log2 / 30 + 1 > 450 := by
  by_cases h0 : a = 0
  · subst h0
    rw [Nat.log2_zero]
    decide
  · have := (Nat.log2_lt h0).mpr ha
    omega
theorem cLcm : CallR X (.builtin "math.lcm") rLcmA := by
  intro pins s σ H vs us Q I r h
  obtain ⟨a, b, rfl, ⟨h1, h2, h3, h4⟩, q⟩ := h
  obtain ⟨t, u, rfl⟩ := Vals.int2 r
  have ha : a.natAbs < 2 ^ 13499 := by
    have : (a.natAbs : Int) < ((2 ^ 13499 : Nat) : Int) := by
      rw [Int.natAbs_of_nonneg (by omega)]
      exact_mod_cast h3
    exact_mod_cast this
  have hb : b.natAbs < 2 ^ 13499 := by
    have : (b.natAbs : Int) < ((2 ^ 13499 : Nat) : Int) := by
      rw [Int.natAbs_of_nonneg (by omega)]
      exact_mod_cast h4
    exact_mod_cast this
  have p1 : 1 ≤ a.natAbs := by omega
  have p2 : 1 ≤ b.natAbs := by omega
  have e1 : Nat.lcm 1 a.natAbs = a.natAbs := Nat.lcm_one_left _
  have m1 : max 1 a.natAbs = a.natAbs := Nat.max_eq_right p1
  have g := PySem.W.mg_run_lcm a t b u (by rw [m1]; exact log_small ha)
    (log_small (by rcases Nat.le_total a.natAbs b.natAbs with z | z; · rw [Nat.max_eq_right z]; exact hb
                   · rw [Nat.max_eq_left z]; exact ha))
    (by rw [e1, Int.natAbs_natCast]; exact lcm_small ha hb)
  rw [e1] at g
  exact PySem.call_function_meets PySem.W.MGF.kind_lcm PySem.W.MGF.plain_lcm PySem.W.MGF.entry_lcm (PySem.W.MGF.args_lcm _ _) g.meets ⟨.int _, H, I.tok _, ⟨_, rfl⟩, q⟩
end

section
variable {K : PySem.W.Frag} {ρ : Rho} {x y z d : D} {l l' : List D}
theorem rv_add {i j : Int} : RvD K (rAddA K) (.int i) (.int j) (.int (i + j)) := fun H T vx vy Q s h1 h2 q => .inl (rv_I0 (g := fun i j => V.int (i + j)) (z := .int (i + j)) (fun _ => rfl) H T vx vy Q s h1 h2 q)
theorem rvo_add (hz : l.length + l'.length ≤ 100000) : RvO K (rAddA K) (.lst l) (.lst l') (l ++ l') := fun H T vx vy Q s h1 h2 q => .inr (.inl (rvo_cat hz H T vx vy Q s h1 h2 q))
theorem rv_addS {i j : Str} (hz : i.length + j.length ≤ 10000000) : RvD K (rAddA K) (.str i) (.str j) (.str (i ++ j)) := fun H T vx vy Q s h1 h2 q =>
  .inr (.inr (.inl ⟨i, j, h1, h2, Nat.le_trans hz (by decide), q _ rfl⟩))
theorem rv_sub {i j : Int} : RvD K rSubA (.int i) (.int j) (.int (i - j)) := rv_I0 fun _ => rfl
theorem rv_mul {i j : Int} (h : CMul i j) : RvD K rMulA (.int i) (.int j) (.int (i * j)) := fun H T vx vy Q s h1 h2 q => .inl (rv_I (g := fun i j => V.int (i * j)) (z := .int (i * j)) h (fun _ => rfl) H T vx vy Q s h1 h2 q)
theorem rv_mulW {i j : Int} (h : CMulW i j) : RvD K rMulA (.int i) (.int j) (.int (i * j)) := fun H T vx vy Q s h1 h2 q => .inr (.inl (rv_I (g := fun i j => V.int (i * j)) (z := .int (i * j)) h (fun _ => rfl) H T vx vy Q s h1 h2 q))
theorem rvo_mul {k : Int} (h1 : -(2 ^ 63) ≤ k ∧ k < 2 ^ 63) (hz : l.length * k.toNat ≤ 100000) : RvO K rMulA (.lst l) (.int k) (List.replicate k.toNat l).flatten := fun H T vx vy Q s g1 g2 q => .inr (.inr (rvo_rep h1 hz H T vx vy Q s g1 g2 q))
theorem rv_div {i j : Int} (h : CDivW i j) : RvD K rDivA (.int i) (.int j) (.int (i / j)) := rv_I h fun _ => rfl
theorem rv_mod {i j : Int} (h : 0 < j) : RvD K rModA (.int i) (.int j) (.int (i % j)) := rv_I h fun _ => rfl
theorem rv_pow {i j z : Int} (h : CPow i j) (e : i ^ j.toNat = z) : RvD K rPowA (.int i) (.int j) (.int z) := e ▸ rv_I h fun _ => rfl
theorem rv_lt {i j : Int} : RvD K rLtA (.int i) (.int j) (.bl (decide (i < j))) := rv_I0 fun _ => rfl
theorem rv_le {i j : Int} : RvD K rLeA (.int i) (.int j) (.bl (decide (i ≤ j))) := rv_I0 fun _ => rfl
theorem rv_gt {i j : Int} : RvD K rGtA (.int i) (.int j) (.bl (decide (j < i))) := rv_I0 fun _ => rfl
theorem rv_ge {i j : Int} : RvD K rGeA (.int i) (.int j) (.bl (decide (j ≤ i))) := rv_I0 fun _ => rfl
theorem rv_eq {i j : Int} : RvD K (rEqA K) (.int i) (.int j) (.bl (decide (i = j))) := fun H T vx vy Q s h1 h2 q => .inl (rv_eqI H T vx vy Q s h1 h2 q)
theorem rv_ne {i j : Int} : RvD K (rNeA K) (.int i) (.int j) (.bl (!decide (i = j))) := fun H T vx vy Q s h1 h2 q => .inl (rv_neI H T vx vy Q s h1 h2 q)
theorem rv_eqStr {i j : Str} : RvD K (rEqA K) (.str i) (.str j) (.bl (decide (i = j))) := fun H T vx vy Q s h1 h2 q => .inl (rv_eqS H T vx vy Q s h1 h2 q)
theorem rv_neStr {i j : Str} : RvD K (rNeA K) (.str i) (.str j) (.bl (!decide (i = j))) := fun H T vx vy Q s h1 h2 q => .inl (rv_neS H T vx vy Q s h1 h2 q)
theorem rv_is : RvD K rIsN x .non (.bl (isNon x)) := rv_isN
theorem rv_isnot : RvD K rNotN x .non (.bl (!isNon x)) := rv_notN
theorem ru_neg {i : Int} : RuD K rNegA (.int i) (.int (-i)) := ru_I fun _ => rfl
theorem rc_len : RcD K (rLenA K) [.lst l] (.int (l.length : Int)) := fun H T vs Q s h q => .inl (rc_lenL H T vs Q s h q)
theorem rc_lent : RcD K (rLenA K) [.tup l] (.int (l.length : Int)) := fun H T vs Q s h q => .inl (rc_lenT H T vs Q s h q)
theorem rc_lenc {ns : List Int} : RcD K (rLenA K) [.scr ns] (.int (ns.length : Int)) := fun H T vs Q s h q => .inl (rc_lenC H T vs Q s h q)
theorem rc_lens {t : Str} (h : t.length ≤ 10000000) : RcD K (rLenA K) [.str t] (.int (t.length : Int)) := fun H T vs Q s i q => by
  obtain ⟨v, rfl, hv⟩ := isL_one i
  exact .inr ⟨t, by rw [show v = V.str t from hv], Nat.le_trans h (by decide), q _ rfl⟩
theorem ev_lenOw {i : Nat} (e : ρ[i]? = some (.ow l)) : EvD K (tCB (rLenA K) (tCons (tVar i) tNil)) ρ (.int (l.length : Int)) := fun M T0 H T σ X Q h q => by
  obtain ⟨p, vs, h1, h2, h4, _⟩ := h.own e
  exact ⟨.ref p, h1, .inl ⟨p, vs, rfl, .inl (.inl (.inl h2)), q _ H T (Same.refl _) (Same.refl _) h (by rw [h4.len]; exact (rfl : V.int _ = V.int _))⟩⟩
theorem rc_toint {i : Int} : RcD K rIntA [.int i] (.int i) := rc_int
theorem rc_tointB {b : Bool} : RcD K rIntA [.bl b] (.int (if b then 1 else 0)) := rc_intB
theorem rc_absv {i : Int} : RcD K rAbsA [.int i] (.int (i.natAbs : Int)) := rc_abs
theorem rc_lcm {a b : Int} (h : CLcm a b) : RcD K rLcmA [.int a, .int b] (.int ((Nat.lcm a.natAbs b.natAbs : Nat) : Int)) := fun H T vs Q s i q => by
  obtain ⟨v, w, rfl, hv, hw⟩ := isL_two i
  exact ⟨a, b, by rw [show v = V.int a from hv, show w = V.int b from hw], h, q _ rfl⟩
theorem rco_list : RcO K (rListA K) [.lst l] l := rc_list
theorem rco_listT : RcO K (rListA K) [.tup l] l := rc_listT
end

/-! ### a def that stands -/
structure FnG (P : Program) (w : World) (K : PySem.W.Frag) (mg : Str → Option Value) (base : Heap) (CX : CXT) (k : Nat) (x : Str) (ps : List Str) (sp : Sp) : Prop where
  ex : ∃ f fd, FnOk P w K mg base CX k f fd ps sp ∧ mg x = some (.ref f) ∧ PySem.W.keepIn K (.ref f) = true ∧ Binds K fd ps []
section
variable {X : Cx} {CX : CXT} {k : Nat} {sp : Sp} {E : XK} {x : Str} {e : Expr} {es : List Expr} {t : TA} {p pos : Pos} {ps : List Str}
theorem pe_g (G : FnG X.prog X.w X.K X.mg X.base CX k x ps sp) (hr : Room k X.A) (hx : Passes CX X E) (ha : PA X (e :: es) t) (hg : Gl X x := by rfl) (hdb : (x == ("__debug__" : Str)) = false := by decide)
    (he : starEach (e :: es) X.env = (false, eval e X.env) :: starEach es X.env := by rfl) (hpl : (backTo pos (starEach es X.env)).any (·.1) = false := by rfl) : PE X (.Call (.Name x p) (e :: es) [] pos) (tCall sp [] E t) := by
  obtain ⟨f, fd, F, hm, hk, hb⟩ := G.ex
  exact pe_call F hr hg hm hk hb .nil hx ha hdb he hpl
end
section
variable {P : Program} {w : World} {K : PySem.W.Frag} {mg : Str → Option Value} {base : Heap} {x qual : Str} {st : Stmt} {f : Addr} {fd : FuncData} {N ps : List Str} {k : Nat} {Pr : PrD}
/-- a def of the text, its facts behind the top -/
structure Df (K : PySem.W.Frag) (mg : Str → Option Value) (x : Str) (st : Stmt) (ps : List Str) : Prop where
  ex : ∃ f fd, Fun K x x st f fd ∧ mg x = some (.ref f) ∧ Binds K fd ps []
theorem Df.ok (F : Df K mg x st ps) (S : FnScope N ps (defScope st)) (len : ∀ ds R Z, Pr ds R Z → ds.length = ps.length)
    (hbody : ∀ (f : Addr) (cdv : Value) (A : Around) (outer : List Env) (s : Shared) (H : Hp) (E : XK), Room k (A.deeper (envOfC x (defScope st) s.heap.objs.size f cdv)) →
      ∃ t, PSs (cxOf CX0 P w K mg base N x (defScope st) f cdv A outer s H E).nox (defBody st) t ∧ ∀ ds R Z, Pr ds R Z → Ws K E t (ds.map .im ++ List.replicate (N.length - ds.length) .no) { nx := fun _ => R (.im .non), rt := R, ex := Z }) :
    FnG P w K mg base CX0 (k + 1) x ps (spD K Pr) := by
  obtain ⟨f, fd, F, hm, hb⟩ := F.ex
  refine ⟨f, fd, F.ok S (fun vs H Q E h => len_fn len h) (fun cdv A outer s H vs Q E hr h => ?_), hm, F.kp, hb⟩
  obtain ⟨t, h1, h2⟩ := hbody f cdv A outer s H E hr
  exact ⟨t, h1, read_fn h h2⟩
theorem Df.okX (F : Df K mg x st ps) (S : FnScope N ps (defScope st)) (len : ∀ ds R Z, Pr ds R Z → ds.length = ps.length)
    (hbody : ∀ (f : Addr) (cdv : Value) (A : Around) (outer : List Env) (s : Shared) (H : Hp) (E : XK), Room k (A.deeper (envOfC x (defScope st) s.heap.objs.size f cdv)) →
      ∃ t, PSs (cxOf (L2.CX P w) P w K mg base N x (defScope st) f cdv A outer s H E) (defBody st) t ∧ ∀ ds R Z, Pr ds R Z → Ws K E t (ds.map .im ++ List.replicate (N.length - ds.length) .no) { nx := fun _ => R (.im .non), rt := R, ex := Z }) :
    FnG P w K mg base (L2.CX P w) (k + 1) x ps (spD K Pr) := by
  obtain ⟨f, fd, F, hm, hb⟩ := F.ex
  refine ⟨f, fd, F.okX S (fun vs H Q E h => len_fn len h) (fun cdv A outer s H vs Q E hr h => ?_), hm, F.kp, hb⟩
  obtain ⟨t, h1, h2⟩ := hbody f cdv A outer s H E hr
  exact ⟨t, h1, read_fn h h2⟩
end

/-! ### short words for derivations; the written part is named, so that it may stand under a comprehension's binder -/
section
variable {X : Cx} (K : PySem.W.Frag)
theorem kAdd (hK : X.K = K := by rfl) : OpR X (binaryOp .Add) (rAddA K) := hK ▸ opAdd
theorem kEq (hu : X.A.units + 64 < cLine) (hK : X.K = K := by rfl) : OpR X (compareOp .Eq) (rEqA K) := hK ▸ opEq hu
theorem kNe (hu : X.A.units + 64 < cLine) (hK : X.K = K := by rfl) : OpR X (compareOp .NotEq) (rNeA K) := hK ▸ opNe hu
theorem kLen (hK : X.K = K := by rfl) : CallR X (.builtin "len") (rLenA K) := hK ▸ cLen
theorem kList (hK : X.K = K := by rfl) : CallR X (.type "list") (rListA K) := hK ▸ cList
theorem kIsi (hK : X.K = K := by rfl) : CallR X (.builtin "isinstance") (rIsi K) := hK ▸ call_isi
theorem kIn (hK : X.K = K := by rfl) : OpR X (compareOp .In) (rIn K false) := hK ▸ op_in_seq
theorem kNotIn (hK : X.K = K := by rfl) : OpR X (compareOp .NotIn) (rIn K true) := hK ▸ op_notIn_seq
theorem kIx (hK : X.K = K := by rfl) : IxR X (rIx K) := hK ▸ ix_seq
theorem ix {a b : Expr} {ta tb : TE} {pos : Pos} (ha : PE X a ta) (hb : PE X b tb) (hK : X.K = K := by rfl) (hs : PlainIx b := by exact fun _ _ => rfl) : PE X (.Subscript a b pos) (tOp (rIx K) ta tb) := pe_ix (kIx K hK) ha hb hs
theorem pl {tg l : Expr} {tl : TE} (hl : PE X l tl) (hK : X.K = K := by rfl) : PI X tg l (iList K tl) := hK ▸ pi_list hl
theorem pt {tg l : Expr} {tl : TE} (hl : PE X l tl) (hK : X.K = K := by rfl) : PI X tg l (iTup K tl) := hK ▸ pi_tup hl
theorem gt {es : List Expr} {k : Nat} {pos : Pos} {t : TGs} {n : Nat} (hc : X.calm = true) (h : PGs X es t) (hK : X.K = K := by rfl) (hn : (assignEach es X.env).length = n := by rfl) (hst : (assignEach es X.env).findIdx? (·.1) = none := by rfl) : PG X (.Tuple es k pos) (gTup K n t) := hK ▸ pg_tup hc h hn hst
theorem ml_append {o e : Expr} {to : TE} {ta : TA} {apos cpos : Pos} (ho : PE X o to) (ha : PA X [e] ta) (hK : X.K = K := by rfl) (hbase : attributeBase o "append" X.env (eval o X.env) = eval o X.env := by rfl)
    (hfew : ((backTo cpos (starEach [e] X.env)).all (fun x => !x.1) && (backToKw cpos (keywordEach [] X.env)).all (fun x => x.1.isSome)
      && decide ([e].length + ([] : List Keyword).length + (if ([] : List Keyword).isEmpty then 0 else 1) < 30)) = true := by rfl)
    (hline : (apos.endLine == cpos.line) = true := by rfl) (hs : starEach [e] X.env = (false, eval e X.env) :: starEach [] X.env := by rfl) (hplain : (backTo cpos (starEach [] X.env)).any (·.1) = false := by rfl) :
    PE X (.Call (.Attribute o "append" apos) [e] [] cpos) (tBM K "list" rAppend to ta) := hK ▸ pe_bm PySem.F.plainAttrs_list PySem.F.slot_list_append PySem.F.type_list_append mt_append ho ha hbase hfew hline hs hplain
end
section
variable {X : Cx}
theorem sv (i : Nat) {x : Str} {e : Expr} {te : TE} {pos pos' : Pos} (hN : X.N.Nodup) (he : PE X e te) (hi : X.N[i]? = some x := by rfl) (hx : Loc X.env.scope x := by first | exact Or.inl rfl | exact Or.inr rfl) (hs : swapsWith e (some (.Name x pos')) pos.line X.env = pure false := by rfl) (hf : X.fn x = true ∨ X.env.scope.names.lookup x = some .local := by first | exact .inl rfl | exact .inr rfl) :
    PS X (.Assign [.Name x pos'] e pos) (tAsg te (gName i)) := ps_set hN hi hx he hs hf
theorem gn (i : Nat) {x : Str} {pos : Pos} (hN : X.N.Nodup) (hi : X.N[i]? = some x := by rfl) (hx : Loc X.env.scope x := by first | exact Or.inl rfl | exact Or.inr rfl) (hf : X.fn x = true ∨ X.env.scope.names.lookup x = some .local := by first | exact .inl rfl | exact .inr rfl) : PG X (.Name x pos) (gName i) := pg_name hN hi hx hf
theorem cb {x : Str} {e : Expr} {es : List Expr} {t : TA} {id : String} {r : List V → Hp → VK → Prop} {p pos : Pos} (hc : CallR X (.builtin id) r) (hm : X.mg x = none) (ha : PA X (e :: es) t) (hg : Gl X x := by rfl) (hv : bootBuiltins x = some (.builtin id) := by decide +kernel) (hn : x ≠ "__name__" := by decide) (hdb : (x == ("__debug__" : Str)) = false := by decide)
    (he : starEach (e :: es) X.env = (false, eval e X.env) :: starEach es X.env := by rfl) (hpl : (backTo pos (starEach es X.env)).any (·.1) = false := by rfl) : PE X (.Call (.Name x p) (e :: es) [] pos) (tCB r t) := pe_callB hc hg hm hv ha hn hdb he hpl
theorem ct {x : Str} {e : Expr} {es : List Expr} {t : TA} {T : String} {r : List V → Hp → VK → Prop} {p pos : Pos} (hc : CallR X (.type T) r) (hm : X.mg x = none) (ha : PA X (e :: es) t) (hg : Gl X x := by rfl) (hv : bootBuiltins x = some (.type T) := by decide +kernel) (hn : x ≠ "__name__" := by decide) (hdb : (x == ("__debug__" : Str)) = false := by decide)
    (he : starEach (e :: es) X.env = (false, eval e X.env) :: starEach es X.env := by rfl) (hpl : (backTo pos (starEach es X.env)).any (·.1) = false := by rfl) : PE X (.Call (.Name x p) (e :: es) [] pos) (tCB r t) := pe_callTy hc hg hm hv ha hn hdb he hpl
end
theorem _root_.L2.Room.le {j k : Nat} {A : Around} (r : L2.Room k A) (h : j ≤ k := by decide) : L2.Room j A := r.mono h

/-! ### statements, something behind -/
section
variable {K : PySem.W.Frag} {E : XK} {ρ : Rho} {P : Pst} {te ta tb : TE} {t u tz : TS} {tt : TT} {d x y : D} {l : List D} {ds : List D} {tr : TA} {g : TG} {i : Nat} {wi : TI}
theorem wq_asg (hv : EvD K te ρ d) (h : Ws K E tz (ρ.set i (.im d)) P) : Ws K E (tSeq (tAsg te (gName i)) tz) ρ P := ws_seq (ws_asg hv h)
theorem wq_asgO (hv : EvO K te ρ l) (hi : i < ρ.length) (h : Ws K E tz (ρ.set i (.ow l)) P) : Ws K E (tSeq (tAsg te (gName i)) tz) ρ P := ws_seq (ws_asgO hv hi h)
theorem wq_asgC (hv : EvC K te ρ d) (hi : i < ρ.length) (h : Ws K E tz (ρ.set i (.cl d)) P) : Ws K E (tSeq (tAsg te (gName i)) tz) ρ P := ws_seq (ws_asgC hv hi h)
theorem wq_asgG {as : List (Nat × D)} (hv : EvD K te ρ d) (hg : GDs K g d as) (h : Ws K E tz (setD ρ as) P) : Ws K E (tSeq (tAsg te g) tz) ρ P := ws_seq (ws_asgG hv hg h)
theorem wq_asgX {Pr : PrD} (ha : EvA K tr ρ ds) (hi : i < ρ.length) (h : Pr ds (okSl (fun ρ' => Ws K E tz ρ' P) ρ i) P.ex) : Ws K E (tSeq (tAsg (tCall (spD K Pr) [] E tr) (gName i)) tz) ρ P := ws_seq (ws_asgX ha hi h)
theorem wq_drop (hv : EvD K te ρ d) (h : Ws K E tz ρ P) : Ws K E (tSeq (tDrop te) tz) ρ P := ws_seq (ws_drop hv h)
theorem wq_dropX {Pr : PrD} (ha : EvA K tr ρ ds) (h : Pr ds (fun s => s ≠ .no → Ws K E tz ρ P) P.ex) : Ws K E (tSeq (tDrop (tCall (spD K Pr) [] E tr)) tz) ρ P := ws_seq (ws_dropX ha h)
theorem wq_app (e : ρ[i]? = some (.ow l)) (hv : EvD K te ρ d) (hz : l.length < 100000) (h : Ws K E tz (ρ.set i (.ow (l ++ [d]))) P) : Ws K E (tSeq (tDrop (tBM K "list" rAppend (tVar i) (tCons te tNil))) tz) ρ P := ws_seq (ws_app e hv hz h)
theorem wq_setL {j : Nat} {z : Int} (e : ρ[i]? = some (.ow l)) (hv : EvD K te ρ d) (hi : EvD K tb ρ (.int z)) (hj : ixN l.length z = some j) (h : Ws K E tz (ρ.set i (.ow (l.set j d))) P) : Ws K E (tSeq (tAsg te (gSub (tVar i) tb rSetL)) tz) ρ P := ws_seq (ws_setL e hv hi hj h)
theorem wq_aug {r : R2} {z : D} (e : ρ[i]? = some (.im x)) (hv : EvD K te ρ y) (hr : RvD K r x y z) (h : Ws K E tz (ρ.set i (.im z)) P) : Ws K E (tSeq (tAug i te r) tz) ρ P := ws_seq (ws_aug e hv hr h)
theorem wq_if {b : Bool} (hc : EvT K tt ρ b) (h1 : b = true → Ws K E t ρ { P with nx := fun ρ' => Ws K E tz ρ' P }) (h2 : b = false → Ws K E u ρ { P with nx := fun ρ' => Ws K E tz ρ' P }) : Ws K E (tSeq (tIfS tt t u) tz) ρ P := ws_seq (ws_if hc h1 h2)
theorem wq_when {b : Bool} (hc : EvT K tt ρ b) (h1 : b = true → Ws K E t ρ { P with nx := fun ρ' => Ws K E tz ρ' P }) (h2 : b = false → Ws K E tz ρ P) : Ws K E (tSeq (tIfS tt t tNext) tz) ρ P := ws_seq (ws_if hc h1 fun hb => ws_next (h2 hb))
theorem wq_for (hs : SrcD K wi ρ l) (Iv : Nat → Rho → Prop) (h0 : Iv 0 ρ)
    (hb : ∀ i d ρ', l[i]? = some d → Iv i ρ' → ∃ as, GDs K g d as ∧ Ws K E tb' (setD ρ' as) { P with nx := Iv (i + 1), ct := Iv (i + 1), bk := fun ρ' => Ws K E tz ρ' P })
    (hd : ∀ ρ', Iv l.length ρ' → Ws K E tz ρ' P) : Ws K E (tSeq (tFor wi g tb') tz) ρ P := ws_seq (ws_for hs Iv h0 hb hd)
theorem wq_while {tb : TS} (Iv : Nat → Rho → Prop) (m0 : Nat) (h0 : Iv m0 ρ)
    (hb : ∀ m ρ', Iv m ρ' → ∃ b, EvT K tt ρ' b ∧ (b = true → Ws K E tb ρ' { P with nx := fun ρ2 => ∃ m', m' < m ∧ Iv m' ρ2, ct := fun ρ2 => ∃ m', m' < m ∧ Iv m' ρ2, bk := fun ρ' => Ws K E tz ρ' P }) ∧ (b = false → Ws K E tz ρ' P)) : Ws K E (tSeq (tWhile tt tb) tz) ρ P := ws_seq (ws_while Iv m0 h0 hb)
/-- a fact of the state, written as one likes -/
theorem ws_to {ρ' : Rho} (e : ρ = ρ') (h : Ws K E t ρ' P) : Ws K E t ρ P := e ▸ h
end
/-- bounds by powers of two, small numbers -/
theorem cdiv_small {i j : Int} (h : 0 < j) (h2 : j < 2 ^ 62) : CDivW i j := wide_div (b := 62) h (by omega) (by decide) (by decide)
theorem cmul_left {i j : Int} (h : -(2 ^ 62) < i ∧ i < 2 ^ 62) : CMul i j := .inl ⟨by omega, by omega⟩
theorem cmul_right {i j : Int} (h : -(2 ^ 62) < j ∧ j < 2 ^ 62) : CMul i j := .inr ⟨by omega, by omega⟩
/-! items of plain lists -/
theorem at_map {α : Type} {f : α → D} {l : List α} {k : Nat} {x : α} (h : l[k]? = some x) : atI (l.map f) (k : Int) = some (f x) := atI_nat (by rw [List.getElem?_map, h] <;> rfl)
theorem at_ints {ns : List Int} {k : Nat} (h : k < ns.length) : atI (ns.map D.int) (k : Int) = some (.int (ns.getD k 0)) := at_map (by rw [List.getD_eq_getElem?_getD, List.getElem?_eq_getElem h] <;> rfl)
end FS
set_option Elab.async false
set_option linter.all false
set_option maxRecDepth 100000
set_option maxHeartbeats 4000000
namespace FS
open PySem PySem.Spec PyProof.Rows L2

/-! ### == of data -/
mutual
def D.py : D → PyData
  | .bl b => .bool b
  | .int i => .int i
  | .str x => .str x
  | .tup l => .tuple (D.pyL l)
  | .lst l => .list (D.pyL l)
  | _ => .none
def D.pyL : List D → List PyData
  | [] => []
  | d :: l => D.py d :: D.pyL l
end
mutual
/-- None, truth values, ints, texts, lists and tuples of these, at most n deep -/
def D.flat : Nat → D → Bool
  | _, .non => true
  | _, .bl _ => true
  | _, .int _ => true
  | _, .str x => PyData.strOk x
  | n + 1, .tup l => D.flatL n l
  | n + 1, .lst l => D.flatL n l
  | _, _ => false
def D.flatL : Nat → List D → Bool
  | _, [] => true
  | n, d :: l => D.flat n d && D.flatL n l
end
theorem flatL_iff {n : Nat} : ∀ {l : List D}, D.flatL n l = true ↔ ∀ d ∈ l, d.flat n = true
  | [] => by simp [D.flatL]
  | d :: l => by simp [D.flatL, flatL_iff (l := l)]
theorem pyL_map : ∀ l : List D, D.pyL l = l.map D.py
  | [] => rfl
  | d :: l => by rw [D.pyL, pyL_map l] <;> rfl
mutual
theorem py_can : ∀ (n : Nat) (d : D), d.flat n = true → d.py.canLay0 = true ∧ d.py.depth ≤ n
  | n, .non, _ => by cases n <;> exact ⟨rfl, Nat.zero_le _⟩
  | n, .bl _, _ => ⟨rfl, Nat.zero_le _⟩
  | n, .int _, _ => ⟨rfl, Nat.zero_le _⟩
  | n, .str x, h => by
    refine ⟨?_, Nat.zero_le _⟩
    cases n <;> exact h
  | 0, .tup l, h => by cases h
  | 0, .lst l, h => by cases h
  | n + 1, .tup l, h => by
    obtain ⟨h1, h2⟩ := py_canL n l h
    exact ⟨h1, Nat.succ_le_succ h2⟩
  | n + 1, .lst l, h => by
    obtain ⟨h1, h2⟩ := py_canL n l h
    exact ⟨h1, Nat.succ_le_succ h2⟩
  | n, .scr _, h => by cases n <;> cases h
  | n, .ty _, h => by cases n <;> cases h
  | n, .obj _, h => by cases n <;> cases h
  | n, .ins _ _ _, h => by cases n <;> cases h
theorem py_canL : ∀ (n : Nat) (l : List D), D.flatL n l = true → PyData.canLayAll0 (D.pyL l) = true ∧ PyData.depthAll (D.pyL l) ≤ n
  | n, [], _ => ⟨rfl, Nat.zero_le _⟩
  | n, d :: l, h => by
    have h' : d.flat n = true ∧ D.flatL n l = true := by simpa [D.flatL] using h
    obtain ⟨a1, a2⟩ := py_can n d h'.1
    obtain ⟨b1, b2⟩ := py_canL n l h'.2
    refine ⟨?_, Nat.max_le.mpr ⟨a2, b2⟩⟩
    show (d.py.canLay0 && PyData.canLayAll0 (D.pyL l)) = true
    rw [a1, b1] <;> rfl
end
theorem py_shaped {n : Nat} {d : D} (h : d.flat n = true) (hn : n ≤ 64) : SeqAt.shaped d.py = true := by
  obtain ⟨h1, h2⟩ := py_can n d h
  unfold SeqAt.shaped
  rw [h1, decide_eq_true (Nat.le_trans h2 hn)] <;> rfl
mutual
theorem is_dp {K : PySem.W.Frag} {H : Hp} : ∀ (n : Nat) (d : D) (v : V), d.flat n = true → Is K H d v → Dp K H v d.py
  | n, .non, _, _, h => by rw [show _ = V.non from h]; exact .non
  | n, .bl b, _, _, h => by rw [show _ = V.bl b from h]; exact .bl b
  | n, .int i, _, _, h => by rw [show _ = V.int i from h]; exact .int i
  | n, .str x, _, _, h => by rw [show _ = V.str x from h]; exact .str x
  | 0, .tup l, _, h, _ => by cases h
  | 0, .lst l, _, h, _ => by cases h
  | n + 1, .tup l, _, h, ⟨a, vs, e, h1, h2⟩ => by
    subst e
    exact .tup h1 (is_dpL n l vs h h2)
  | n + 1, .lst l, _, h, ⟨a, vs, e, h1, h2⟩ => by
    subst e
    exact .lst (.inl (.inl h1)) (is_dpL n l vs h h2)
  | n, .scr _, _, h, _ => by cases n <;> cases h
  | n, .ty _, _, h, _ => by cases n <;> cases h
  | n, .obj _, _, h, _ => by cases n <;> cases h
  | n, .ins _ _ _, _, h, _ => by cases n <;> cases h
theorem is_dpL {K : PySem.W.Frag} {H : Hp} : ∀ (n : Nat) (l : List D) (vs : List V), D.flatL n l = true → IsL K H l vs → DpAll K H vs (D.pyL l)
  | n, [], _, _, h => by rw [show _ = [] from h]; exact .nil
  | n, d :: l, _, h, ⟨v, r, e, h1, h2⟩ => by
    have h' : d.flat n = true ∧ D.flatL n l = true := by simpa [D.flatL] using h
    rw [e]
    exact .cons (is_dp n d v h'.1 h1) (is_dpL n l r h'.2 h2)
end
section
variable {K : PySem.W.Frag} {ρ : Rho} {x y z d : D} {l : List D} {n : Nat} {te ta tb : TE} {i : Nat} {E : XK} {P : Pst}
theorem rv_eqD (h1 : x.flat n = true) (h2 : y.flat n = true) (hn : n ≤ 64) : RvD K (rEqA K) x y (.bl (PyData.eqv x.py y.py)) := fun H T vx vy Q s i1 i2 q =>
  .inr ⟨x.py, y.py, is_dp n x vx h1 (i1.up s), is_dp n y vy h2 (i2.up s), py_shaped h1 hn, py_shaped h2 hn, q _ rfl⟩
theorem rv_neD (h1 : x.flat n = true) (h2 : y.flat n = true) (hn : n ≤ 64) : RvD K (rNeA K) x y (.bl (!PyData.eqv x.py y.py)) := fun H T vx vy Q s i1 i2 q =>
  .inr ⟨x.py, y.py, is_dp n x vx h1 (i1.up s), is_dp n y vy h2 (i2.up s), py_shaped h1 hn, py_shaped h2 hn, q _ rfl⟩
theorem rv_eqDD (h1 : x.flat n = true) (hn : n ≤ 64) : RvD K (rEqA K) x x (.bl true) := by
  have h := rv_eqD (K := K) h1 h1 hn
  rw [SeqAt.eqv_refl _ (py_can n x h1).1] at h
  exact h
theorem rv_neDD (h1 : x.flat n = true) (hn : n ≤ 64) : RvD K (rNeA K) x x (.bl false) := by
  have h := rv_neD (K := K) h1 h1 hn
  rw [SeqAt.eqv_refl _ (py_can n x h1).1] at h
  exact h

/-! ### isinstance -/
/-- the built-in class of d -/
def D.cls : D → Option String
  | .non => some "NoneType"
  | .bl _ => some "bool"
  | .int _ => some "int"
  | .str _ => some "str"
  | .tup _ => some "tuple"
  | .lst _ => some "list"
  | _ => none
theorem tyx_of {H : Hp} {v : V} {c : String} (h : Is K H d v) (e : d.cls = some c) : TyX K H v (.type c) := by
  cases d with
  | non => cases e; rw [show v = V.non from h]; exact .base .non
  | bl b => cases e; rw [show v = V.bl b from h]; exact .base (.bl b)
  | int b => cases e; rw [show v = V.int b from h]; exact .base (.int b)
  | str b => cases e; rw [show v = V.str b from h]; exact .base (.str b)
  | tup l =>
    cases e
    obtain ⟨a, vs, rfl, h1, _⟩ := h
    rcases h1 with (h1 | ⟨o, h1⟩) | ⟨o, its, n, h1, h2, _⟩
    · exact .base (.tup h1)
    · exact .fTuple h1
    · exact .kTuple h1 h2
  | lst l =>
    cases e
    obtain ⟨a, vs, rfl, h1, _⟩ := h
    exact .base (.lst h1)
  | scr l => cases e
  | ty l => cases e
  | obj l => cases e
  | ins C ns l => cases e
theorem rc_isi {c t : String} {r : Bool} (e : d.cls = some c) (hk : kitB c t = some r) : RcD K (rIsi K) [d, .ty t] (.bl r) := fun H T vs Q s h q => by
  obtain ⟨v, w, rfl, h1, h2⟩ := isL_two h
  exact ⟨v, .ty t, .type c, .type t, r, by rw [show w = V.ty t from h2], .ty t, tyx_of (h1.up s) e, kit_ty hk, q _ rfl⟩

/-! ### x[0].append(e), x a closed tuple whose first part is a list -/
theorem ws_app0 {ds : List D} {i0 : Int} (e : ρ[i]? = some (.cl (.tup (.lst l :: ds)))) (hd : EvD K te ρ d) (hs : d.sc = true) (hz : l.length < 100000) (h0 : i0 = 0) (h : P.nx (ρ.set i (.cl (.tup (.lst (l ++ [d]) :: ds))))) :
    Ws K E (tDrop (tBM K "list" rAppend (tOp (rIx K) (tVar i) (tC (.int i0))) (tCons te tNil))) ρ P := fun M T0 H T σ Dn en k => by
  subst h0
  obtain ⟨x, Ls, h1, h2, h3⟩ := en.take e
  obtain ⟨v, rfl, hc⟩ := h2.cl1
  obtain ⟨a, vs, Lt, rfl, rfl, v1, r, L1, L2, rfl, rfl, ⟨p, us, Lu, rfl, rfl, hl⟩, hr⟩ := hc
  have ha : T a = some (.tup (.ref p :: r)) := EnX.at_ h3
  have pm : List.Perm (((a, HO.tup (.ref p :: r)) :: ((p, HO.lst us) :: Lu ++ L2)) ++ []) ((p, .lst us) :: ((a, .tup (.ref p :: r)) :: (Lu ++ L2))) := by
    rw [List.append_nil]
    exact List.Perm.swap _ _ _
  have h4 := h3.perm pm
  have hp : T p = some (.lst us) := EnX.at_ h4
  refine ⟨.ref a, h1, .inr (.inl ⟨a, _, 0, .ref p, rfl, rfl, .inl (.inl ha), atI_nat (j := 0) rfl, ?_⟩)⟩
  refine ⟨.inl ⟨rfl, us, .inl (.inl hp)⟩, hd M T0 H T σ [] _ en fun w H' T' s t' e' iv => ?_⟩
  obtain ⟨x', Ls', g1, g2, g3⟩ := e'.take e
  obtain ⟨v', rfl, gc⟩ := g2.cl1
  rw [h1] at g1
  cases g1
  obtain ⟨a', vs', Lt', ea, rfl, v1', r', L1', L2', rfl, rfl, ⟨p', us', Lu', rfl, rfl, gl⟩, gr⟩ := gc
  cases ea
  have ga : T' a = some (.tup (.ref p' :: r')) := EnX.at_ g3
  rw [t' _ _ ha] at ga
  cases ga
  have pm' : List.Perm (((a, HO.tup (.ref p :: r)) :: ((p, HO.lst us') :: Lu' ++ L2')) ++ []) ((p, .lst us') :: ((a, .tup (.ref p :: r)) :: (Lu' ++ L2'))) := by
    rw [List.append_nil]
    exact List.Perm.swap _ _ _
  have g4 := g3.perm pm'
  have gp : T' p = some (.lst us') := EnX.at_ g4
  have lu : us'.length = l.length := gl.len
  refine ⟨p, us', w, rfl, rfl, gp, by rw [lu]; exact Nat.lt_of_lt_of_le hz (by decide), ?_⟩
  have g5 := EnX.write (o' := .lst (us' ++ [w])) g4
  have hi : i < (ρ.set i .no).length := by rw [List.length_set]; exact (List.getElem?_eq_some_iff.mp e).1
  have hs2 : IsC d w [] := iv.sc hs
  have gl2 : IsCL (l ++ [d]) (us' ++ [w]) Lu' := by
    have := gl.app (.one hs2)
    rw [List.append_nil] at this
    exact this
  have g6 : EnX K M T0 H' (upd T' p (.lst (us' ++ [w]))) σ (ρ.set i .no) (((a, HO.tup (.ref p :: r)) :: ((p, HO.lst (us' ++ [w])) :: Lu' ++ L2')) ++ []) := by
    refine g5.perm ?_
    rw [List.append_nil]
    exact List.Perm.swap _ _ _
  have g7 := EnX.setC (i := i) (d := .tup (.lst (l ++ [d]) :: ds)) (v := .ref a) g6 hi ⟨a, _, _, rfl, rfl, .ref p, r, (p, .lst (us' ++ [w])) :: Lu', L2', rfl, rfl, ⟨p, _, Lu', rfl, rfl, gl2⟩, gr⟩
  rw [set_self h1, List.set_set] at g7
  exact k.nx _ _ _ _ h s g7
theorem wq_app0 {tz : TS} {ds : List D} {i0 : Int} (e : ρ[i]? = some (.cl (.tup (.lst l :: ds)))) (hd : EvD K te ρ d) (hs : d.sc = true) (hz : l.length < 100000) (h0 : i0 = 0) (h : Ws K E tz (ρ.set i (.cl (.tup (.lst (l ++ [d]) :: ds)))) P) :
    Ws K E (tSeq (tDrop (tBM K "list" rAppend (tOp (rIx K) (tVar i) (tC (.int i0))) (tCons te tNil))) tz) ρ P := ws_seq (ws_app0 e hd hs hz h0 h)
end
theorem rv_p6 {K : PySem.W.Frag} : RvD K rPowA (.int 10) (.int 6) (.int 1000000) := rv_pow ⟨by decide, by decide, by decide⟩ (by decide)
theorem rv_p7 {K : PySem.W.Frag} : RvD K rPowA (.int 10) (.int 7) (.int 10000000) := rv_pow ⟨by decide, by decide, by decide⟩ (by decide)
theorem rv_p8 {K : PySem.W.Frag} : RvD K rPowA (.int 10) (.int 8) (.int 100000000) := rv_pow ⟨by decide, by decide, by decide⟩ (by decide)
theorem rv_p12 {K : PySem.W.Frag} : RvD K rPowA (.int 10) (.int 12) (.int 1000000000000) := rv_pow ⟨by decide, by decide, by decide⟩ (by decide)
theorem rv_p18 {K : PySem.W.Frag} : RvD K rPowA (.int 10) (.int 18) (.int 1000000000000000000) := rv_pow ⟨by decide, by decide, by decide⟩ (by decide)
theorem rv_p20 {K : PySem.W.Frag} : RvD K rPowA (.int 10) (.int 20) (.int 100000000000000000000) := rv_pow ⟨by decide, by decide, by decide⟩ (by decide)
theorem rv_p25 {K : PySem.W.Frag} : RvD K rPowA (.int 10) (.int 25) (.int 10000000000000000000000000) := rv_pow ⟨by decide, by decide, by decide⟩ (by decide)
theorem rv_p30 {K : PySem.W.Frag} : RvD K rPowA (.int 10) (.int 30) (.int 1000000000000000000000000000000) := rv_pow ⟨by decide, by decide, by decide⟩ (by decide)
theorem rv_p39 {K : PySem.W.Frag} : RvD K rPowA (.int 10) (.int 39) (.int 1000000000000000000000000000000000000000) := rv_pow ⟨by decide, by decide, by decide⟩ (by decide)
theorem rv_p40 {K : PySem.W.Frag} : RvD K rPowA (.int 10) (.int 40) (.int 10000000000000000000000000000000000000000) := rv_pow ⟨by decide, by decide, by decide⟩ (by decide)
theorem rv_p60 {K : PySem.W.Frag} : RvD K rPowA (.int 10) (.int 60) (.int 1000000000000000000000000000000000000000000000000000000000000) := rv_pow ⟨by decide, by decide, by decide⟩ (by decide)
theorem at_getD {ns : List Int} {k : Int} (h0 : 0 ≤ k) (h : k < ns.length) : atI (ns.map D.int) k = some (.int (ns.getD k.toNat 0)) := by
  have e : k = ((k.toNat : Nat) : Int) := by omega
  have := at_ints (ns := ns) (k := k.toNat) (by omega)
  rw [← e] at this
  exact this
theorem atI_getD {ns : List Int} {k : Int} (h0 : 0 ≤ k) (h : k < ns.length) : atI ns k = some (ns.getD k.toNat 0) := by
  unfold atI ixN
  rw [if_pos h0, if_pos h]
  show ns[k.toNat]? = _
  rw [List.getD_eq_getElem?_getD, List.getElem?_eq_getElem (by omega)]
  rfl
theorem ev_ty {K : PySem.W.Frag} {ρ : Rho} {n : String} : EvD K (tC (.ty n)) ρ (.ty n) := ev_c fun _ => rfl
section
variable {K : PySem.W.Frag} {E : XK} {ρ : Rho} {P : Pst} {t u tz : TS} {tt : TT} {b : Bool}
theorem ws_ifT (hc : EvT K tt ρ b) (e : b = true) (h : Ws K E t ρ P) : Ws K E (tIfS tt t u) ρ P := ws_if hc (fun _ => h) (fun z => by rw [e] at z; cases z)
theorem ws_ifF (hc : EvT K tt ρ b) (e : b = false) (h : Ws K E u ρ P) : Ws K E (tIfS tt t u) ρ P := ws_if hc (fun z => by rw [e] at z; cases z) (fun _ => h)
theorem wq_ifT (hc : EvT K tt ρ b) (e : b = true) (h : Ws K E t ρ { P with nx := fun ρ' => Ws K E tz ρ' P }) : Ws K E (tSeq (tIfS tt t u) tz) ρ P := ws_seq (ws_ifT hc e h)
theorem wq_ifF (hc : EvT K tt ρ b) (e : b = false) (h : Ws K E u ρ { P with nx := fun ρ' => Ws K E tz ρ' P }) : Ws K E (tSeq (tIfS tt t u) tz) ρ P := ws_seq (ws_ifF hc e h)
theorem wq_noif (hc : EvT K tt ρ b) (e : b = false) (h : Ws K E tz ρ P) : Ws K E (tSeq (tIfS tt t tNext) tz) ρ P := ws_seq (ws_ifF hc e (ws_next h))
end
/-- a def of which nothing is said -/
theorem Df.none {P : Program} {w : World} {K : PySem.W.Frag} {mg : Str → Option Value} {base : Heap} {x : Str} {st : Stmt} {ps : List Str} {CX : CXT} {k : Nat} (F : Df K mg x st ps) : FnG P w K mg base CX k x ps (spD K fun _ _ _ => False) := by
  obtain ⟨f, fd, F, hm, hb⟩ := F.ex
  exact ⟨f, fd, ⟨fun vs H Q E h => by
    obtain ⟨_, _, _, _, _, _, _, h, _⟩ := h
    exact h.elim, fun A outer s H args us vs Q E hr he hb hv h => by
    obtain ⟨_, _, _, _, _, _, _, h, _⟩ := h
    exact h.elim⟩, hm, F.kp, hb⟩
/-! data of ints, None, tuples and lists, at most n levels deep -/
mutual
def D.pl : Nat → D → Bool
  | _, .non => true
  | _, .int _ => true
  | n + 1, .tup l => D.plL n l && decide (l.length ≤ 100000)
  | n + 1, .lst l => D.plL n l && decide (l.length ≤ 100000)
  | _, _ => false
def D.plL : Nat → List D → Bool
  | _, [] => true
  | n, d :: l => D.pl n d && D.plL n l
end
theorem D.plL_get {n : Nat} : ∀ {l : List D} {i : Nat} {d : D}, D.plL n l = true → l[i]? = some d → D.pl n d = true
  | [], _, _, _, h => by simp at h
  | x :: l, 0, d, h, e => by
    rw [D.plL, Bool.and_eq_true] at h
    cases e
    exact h.1
  | x :: l, i + 1, d, h, e => by
    rw [D.plL, Bool.and_eq_true] at h
    exact D.plL_get h.2 e
theorem D.plL_of {n : Nat} : ∀ {l : List D}, (∀ d ∈ l, D.pl n d = true) → D.plL n l = true
  | [], _ => by simp [D.plL]
  | x :: l, h => by rw [D.plL, h x List.mem_cons_self, D.plL_of fun d hd => h d (List.mem_cons_of_mem _ hd)] <;> rfl
theorem D.pl_int {n : Nat} {i : Int} : D.pl n (.int i) = true := by cases n <;> rfl
theorem D.pl_non {n : Nat} : D.pl n .non = true := by cases n <;> rfl
theorem isi_non_int {K : PySem.W.Frag} : RcD K (rIsi K) [D.non, .ty "int"] (.bl false) := rc_isi rfl (by decide +kernel)
theorem isi_non_bool {K : PySem.W.Frag} : RcD K (rIsi K) [D.non, .ty "bool"] (.bl false) := rc_isi rfl (by decide +kernel)
theorem isi_non_str {K : PySem.W.Frag} : RcD K (rIsi K) [D.non, .ty "str"] (.bl false) := rc_isi rfl (by decide +kernel)
theorem isi_non_tuple {K : PySem.W.Frag} : RcD K (rIsi K) [D.non, .ty "tuple"] (.bl false) := rc_isi rfl (by decide +kernel)
theorem isi_non_list {K : PySem.W.Frag} : RcD K (rIsi K) [D.non, .ty "list"] (.bl false) := rc_isi rfl (by decide +kernel)
theorem isi_bl_int {K : PySem.W.Frag} {b : Bool} : RcD K (rIsi K) [D.bl b, .ty "int"] (.bl true) := rc_isi rfl (by decide +kernel)
theorem isi_bl_bool {K : PySem.W.Frag} {b : Bool} : RcD K (rIsi K) [D.bl b, .ty "bool"] (.bl true) := rc_isi rfl (by decide +kernel)
theorem isi_bl_str {K : PySem.W.Frag} {b : Bool} : RcD K (rIsi K) [D.bl b, .ty "str"] (.bl false) := rc_isi rfl (by decide +kernel)
theorem isi_bl_tuple {K : PySem.W.Frag} {b : Bool} : RcD K (rIsi K) [D.bl b, .ty "tuple"] (.bl false) := rc_isi rfl (by decide +kernel)
theorem isi_bl_list {K : PySem.W.Frag} {b : Bool} : RcD K (rIsi K) [D.bl b, .ty "list"] (.bl false) := rc_isi rfl (by decide +kernel)
theorem isi_int_int {K : PySem.W.Frag} {i : Int} : RcD K (rIsi K) [D.int i, .ty "int"] (.bl true) := rc_isi rfl (by decide +kernel)
theorem isi_int_bool {K : PySem.W.Frag} {i : Int} : RcD K (rIsi K) [D.int i, .ty "bool"] (.bl false) := rc_isi rfl (by decide +kernel)
theorem isi_int_str {K : PySem.W.Frag} {i : Int} : RcD K (rIsi K) [D.int i, .ty "str"] (.bl false) := rc_isi rfl (by decide +kernel)
theorem isi_int_tuple {K : PySem.W.Frag} {i : Int} : RcD K (rIsi K) [D.int i, .ty "tuple"] (.bl false) := rc_isi rfl (by decide +kernel)
theorem isi_int_list {K : PySem.W.Frag} {i : Int} : RcD K (rIsi K) [D.int i, .ty "list"] (.bl false) := rc_isi rfl (by decide +kernel)
theorem isi_str_int {K : PySem.W.Frag} {t : Str} : RcD K (rIsi K) [D.str t, .ty "int"] (.bl false) := rc_isi rfl (by decide +kernel)
theorem isi_str_bool {K : PySem.W.Frag} {t : Str} : RcD K (rIsi K) [D.str t, .ty "bool"] (.bl false) := rc_isi rfl (by decide +kernel)
theorem isi_str_str {K : PySem.W.Frag} {t : Str} : RcD K (rIsi K) [D.str t, .ty "str"] (.bl true) := rc_isi rfl (by decide +kernel)
theorem isi_str_tuple {K : PySem.W.Frag} {t : Str} : RcD K (rIsi K) [D.str t, .ty "tuple"] (.bl false) := rc_isi rfl (by decide +kernel)
theorem isi_str_list {K : PySem.W.Frag} {t : Str} : RcD K (rIsi K) [D.str t, .ty "list"] (.bl false) := rc_isi rfl (by decide +kernel)
theorem isi_tup_int {K : PySem.W.Frag} {l : List D} : RcD K (rIsi K) [D.tup l, .ty "int"] (.bl false) := rc_isi rfl (by decide +kernel)
theorem isi_tup_bool {K : PySem.W.Frag} {l : List D} : RcD K (rIsi K) [D.tup l, .ty "bool"] (.bl false) := rc_isi rfl (by decide +kernel)
theorem isi_tup_str {K : PySem.W.Frag} {l : List D} : RcD K (rIsi K) [D.tup l, .ty "str"] (.bl false) := rc_isi rfl (by decide +kernel)
theorem isi_tup_tuple {K : PySem.W.Frag} {l : List D} : RcD K (rIsi K) [D.tup l, .ty "tuple"] (.bl true) := rc_isi rfl (by decide +kernel)
theorem isi_tup_list {K : PySem.W.Frag} {l : List D} : RcD K (rIsi K) [D.tup l, .ty "list"] (.bl false) := rc_isi rfl (by decide +kernel)
theorem isi_lst_int {K : PySem.W.Frag} {l : List D} : RcD K (rIsi K) [D.lst l, .ty "int"] (.bl false) := rc_isi rfl (by decide +kernel)
theorem isi_lst_bool {K : PySem.W.Frag} {l : List D} : RcD K (rIsi K) [D.lst l, .ty "bool"] (.bl false) := rc_isi rfl (by decide +kernel)
theorem isi_lst_str {K : PySem.W.Frag} {l : List D} : RcD K (rIsi K) [D.lst l, .ty "str"] (.bl false) := rc_isi rfl (by decide +kernel)
theorem isi_lst_tuple {K : PySem.W.Frag} {l : List D} : RcD K (rIsi K) [D.lst l, .ty "tuple"] (.bl false) := rc_isi rfl (by decide +kernel)
theorem isi_lst_list {K : PySem.W.Frag} {l : List D} : RcD K (rIsi K) [D.lst l, .ty "list"] (.bl true) := rc_isi rfl (by decide +kernel)
end FS
set_option Elab.async false
set_option linter.all false
set_option maxRecDepth 100000
set_option maxHeartbeats 4000000
set_option exponentiation.threshold 20000
namespace FS
/-! ### drawn numbers -/
def drawsBig : Int → List Int → List Int
  | _, [] => []
  | r, s :: t => r % s :: drawsBig (r / s) t
def drawsLow : Int → Int → List Int → List Int
  | _, _, [] => []
  | seed, k, s :: t => ((((seed * 48271 + 11 * k + 7) % 2147483647) * 69621 + 3 * k + 1) % 2147483629 / 7) % s :: drawsLow ((seed * 48271 + 11 * k + 7) % 2147483647) (k + 1) t
def draws (c : Int) (sizes : List Int) : List Int := if (1000000000000000000 : Int) ≤ c then drawsBig (c - 1000000000000000000) sizes else drawsLow (c % 2147483647) 0 sizes
theorem drawsBig_len : ∀ (s : List Int) (r : Int), (drawsBig r s).length = s.length
  | [], _ => rfl
  | _ :: t, _ => by rw [drawsBig, List.length_cons, List.length_cons, drawsBig_len t]
theorem drawsLow_len : ∀ (s : List Int) (r k : Int), (drawsLow r k s).length = s.length
  | [], _, _ => rfl
  | _ :: t, _, _ => by rw [drawsLow, List.length_cons, List.length_cons, drawsLow_len t]
theorem draws_len (c : Int) (s : List Int) : (draws c s).length = s.length := by
  unfold draws
  split
  · exact drawsBig_len _ _
  · exact drawsLow_len _ _ _
theorem drawsBig_bd : ∀ (s : List Int) (r : Int) (i : Nat), (∀ x ∈ s, 0 < x) → i < s.length → 0 ≤ (drawsBig r s).getD i 0 ∧ (drawsBig r s).getD i 0 < s.getD i 0
  | [], _, _, _, h => by simp at h
  | x :: t, r, 0, hp, _ => by
    have := hp x List.mem_cons_self
    exact ⟨Int.emod_nonneg _ (by omega), Int.emod_lt_of_pos _ this⟩
  | x :: t, r, i + 1, hp, h => by
    have := drawsBig_bd t (r / x) i (fun y hy => hp y (List.mem_cons_of_mem _ hy)) (by simpa using h)
    simpa [drawsBig] using this
theorem drawsLow_bd : ∀ (s : List Int) (r k : Int) (i : Nat), (∀ x ∈ s, 0 < x) → i < s.length → 0 ≤ (drawsLow r k s).getD i 0 ∧ (drawsLow r k s).getD i 0 < s.getD i 0
  | [], _, _, _, _, h => by simp at h
  | x :: t, r, k, 0, hp, _ => by
    have := hp x List.mem_cons_self
    exact ⟨Int.emod_nonneg _ (by omega), Int.emod_lt_of_pos _ this⟩
  | x :: t, r, k, i + 1, hp, h => by
    have := drawsLow_bd t ((r * 48271 + 11 * k + 7) % 2147483647) (k + 1) i (fun y hy => hp y (List.mem_cons_of_mem _ hy)) (by simpa using h)
    simpa [drawsLow] using this
theorem draws_bd (c : Int) (s : List Int) (i : Nat) (hp : ∀ x ∈ s, 0 < x) (h : i < s.length) : 0 ≤ (draws c s).getD i 0 ∧ (draws c s).getD i 0 < s.getD i 0 := by
  unfold draws
  split
  · exact drawsBig_bd _ _ _ hp h
  · exact drawsLow_bd _ _ _ _ hp h

/-! ### Euclid's turns: x, y behind i turns -/
structure Eu (a b x y i : Nat) : Prop where
  g : Nat.gcd x y = Nat.gcd a b
  z : i = 0 → x = a ∧ y = b
  s : 1 ≤ i → y < x ∨ (x = 0 ∧ y = 0 ∧ b = 0) ∨ y = 0
  p : 1 ≤ i → x * y * 2 ^ (i - 1) ≤ b * b
theorem Eu.start (a b : Nat) : Eu a b a b 0 := ⟨rfl, fun _ => ⟨rfl, rfl⟩, fun h => by omega, fun h => by omega⟩
theorem Eu.turn {a b x y i : Nat} (h : Eu a b x y i) (hy : y ≠ 0) : Eu a b y (x % y) (i + 1) := by
  refine ⟨?_, fun h => by omega, fun _ => .inl (Nat.mod_lt _ (by omega)), fun _ => ?_⟩
  · rw [← h.g, Nat.gcd_comm x y, Nat.gcd_rec y x, Nat.gcd_comm]
  · by_cases hi : i = 0
    · obtain ⟨rfl, rfl⟩ := h.z hi
      subst hi
      have : x % y ≤ y := Nat.le_of_lt (Nat.mod_lt _ (by omega))
      show y * (x % y) * 2 ^ 0 ≤ y * y
      rw [Nat.pow_zero, Nat.mul_one]
      exact Nat.mul_le_mul_left _ this
    · have hp := h.p (by omega)
      have hs : y < x := by
        rcases h.s (by omega) with q | ⟨_, q, _⟩ | q
        · exact q
        · exact absurd q hy
        · exact absurd q hy
      have h2 : 2 * (x % y) ≤ x := by
        have e := Nat.div_add_mod x y
        have h1 : x % y < y := Nat.mod_lt _ (by omega)
        have h3 : 1 ≤ x / y := Nat.div_pos (by omega) (by omega)
        have h4 : y * 1 ≤ y * (x / y) := Nat.mul_le_mul_left y h3
        omega
      have e : i + 1 - 1 = (i - 1) + 1 := by omega
      rw [e, Nat.pow_succ]
      calc y * (x % y) * (2 ^ (i - 1) * 2) = y * (2 * (x % y)) * 2 ^ (i - 1) := by
            rw [Nat.mul_comm (2 ^ (i - 1)) 2, ← Nat.mul_assoc, Nat.mul_assoc y (x % y) 2, Nat.mul_comm (x % y) 2]
        _ ≤ y * x * 2 ^ (i - 1) := Nat.mul_le_mul_right _ (Nat.mul_le_mul_left _ h2)
        _ = x * y * 2 ^ (i - 1) := by rw [Nat.mul_comm y x]
        _ ≤ b * b := hp
theorem Eu.stop {a b x y i : Nat} (h : Eu a b x y i) (hy : y = 0) : x = Nat.gcd a b := by rw [← h.g, hy, Nat.gcd_zero_right]
/-- behind enough turns nothing is left -/
theorem Eu.done {a b x y n k : Nat} (h : Eu a b x y n) (hb : b < 2 ^ k) (hn : 2 * k + 1 ≤ n) : y = 0 := by
  rcases Nat.eq_zero_or_pos y with q | q
  · exact q
  · exfalso
    have hp := h.p (by omega)
    have hx : 1 ≤ x := by
      rcases h.s (by omega) with z | ⟨_, z, _⟩ | z <;> omega
    have h1 : 1 ≤ x * y := Nat.mul_pos hx q
    have h2 : 2 ^ (n - 1) ≤ x * y * 2 ^ (n - 1) := Nat.le_mul_of_pos_left _ h1
    have h3 : b * b < 2 ^ (2 * k) := by
      rw [Nat.two_mul, Nat.pow_add]
      exact Nat.mul_lt_mul'' hb hb
    have h4 : 2 ^ (2 * k) ≤ 2 ^ (n - 1) := Nat.pow_le_pow_right (by decide) (by omega)
    omega

/-! ### numbers -/
abbrev Num := Int × Int
def numD (x : Num) : D := .tup [.int x.1, .int x.2]
def mk (n d : Int) : Num := (n / (Nat.gcd n.natAbs d.natAbs : Nat), d / (Nat.gcd n.natAbs d.natAbs : Nat))
/-- a number of at most k bits above and below -/
structure Good (k : Nat) (x : Num) : Prop where
  pos : 0 < x.2
  up : x.1.natAbs < 2 ^ k
  dn : x.2 < 2 ^ k
  co : Nat.gcd x.1.natAbs x.2.natAbs = 1
theorem gcd_pos' {n d : Int} (h : 0 < d) : 0 < Nat.gcd n.natAbs d.natAbs := Nat.gcd_pos_of_pos_right _ (by omega)
theorem natAbs_div {n : Int} {g : Nat} (hg : 0 < g) (hd : g ∣ n.natAbs) : (n / (g : Int)).natAbs = n.natAbs / g := by
  have : (g : Int) ∣ n := Int.ofNat_dvd_left.mpr hd
  rw [Int.natAbs_ediv_of_dvd this, Int.natAbs_natCast]
theorem mk_good {n d : Int} {k : Nat} (h : 0 < d) (hn : n.natAbs < 2 ^ k) (hd : d < 2 ^ k) : Good k (mk n d) := by
  have g0 := gcd_pos' (n := n) h
  have e1 : (mk n d).1.natAbs = n.natAbs / Nat.gcd n.natAbs d.natAbs := natAbs_div g0 (Nat.gcd_dvd_left _ _)
  have e2 : (mk n d).2.natAbs = d.natAbs / Nat.gcd n.natAbs d.natAbs := natAbs_div g0 (Nat.gcd_dvd_right _ _)
  have hdd : ((Nat.gcd n.natAbs d.natAbs : Nat) : Int) ∣ d := Int.ofNat_dvd_left.mpr (Nat.gcd_dvd_right _ _)
  refine ⟨?_, ?_, ?_, ?_⟩
  · exact Int.ediv_pos_of_pos_of_dvd h (by omega) hdd
  · rw [e1]
    exact Nat.lt_of_le_of_lt (Nat.div_le_self _ _) hn
  · refine Int.lt_of_le_of_lt ?_ hd
    exact Int.ediv_le_self _ (by omega)
  · rw [e1, e2, Nat.gcd_div (Nat.gcd_dvd_left _ _) (Nat.gcd_dvd_right _ _)]
    exact Nat.div_self g0
end FS
set_option Elab.async false
set_option linter.all false
set_option maxRecDepth 100000
set_option maxHeartbeats 4000000
namespace FS
open PySem PySem.Spec PyProof.Rows L2
/-! ### the end -/
section
variable {P : Program} {w : World} {K : PySem.W.Frag} {mg : Str → Option Value} {base h : Heap} {x : Str} {st : Stmt} {f : Addr} {fd : FuncData} {N ps : List Str} {k : Nat} {Pr : PrD}
theorem df_of {oc : Value} {od an : Option Addr} {osl : Array (Option Value)} {kV doc pm cdv ct : Value} (X : K.In h) (G : h.Ns mainGlobals mg) (a : PySem.W.nsIn K mainGlobals x = some (some (.ref f))) (l : K.lookup f = some ⟨oc, od, .func (PySem.W.fnOf x x (defArgs st) (defBody st) (defScope st) .none kV doc pm an cdv ct), osl⟩)
    (c : PySem.W.codeIn K cdv x = true) (k : PySem.W.keepIn K (.ref f) = true) (b : ∀ (kV doc pm : Value) (an : Option Addr) (cdv ct : Value) (us : List Value), us.length = ps.length → bindArgs (PySem.W.fnOf x x (defArgs st) (defBody st) (defScope st) .none kV doc pm an cdv ct) ⟨us, []⟩ = pure (ps.zip us)) : Df K mg x st ps :=
  ⟨f, _, fun_mk l c k, PySem.W.mg_of X G a, (fun_mk l c k).binds b⟩
theorem okD (F : Fun K x x st f fd) (S : FnScope N ps (defScope st)) (len : ∀ ds R Z, Pr ds R Z → ds.length = ps.length)
    (hbody : ∀ (f : Addr) (cdv : Value) (A : Around) (outer : List Env) (s : Shared) (H : Hp) (E : XK), Room k (A.deeper (envOfC x (defScope st) s.heap.objs.size f cdv)) →
      ∃ t, PSs (cxOf CX0 P w K mg base N x (defScope st) f cdv A outer s H E).nox (defBody st) t ∧ ∀ ds R Z, Pr ds R Z → Ws K E t (ds.map .im ++ List.replicate (N.length - ds.length) .no) { nx := fun _ => R (.im .non), rt := R, ex := Z }) :
    FnOk P w K mg base CX0 (k + 1) f fd ps (spD K Pr) :=
  F.ok S (fun vs H Q E h => len_fn len h) fun cdv A outer s H vs Q E hr h => by
    obtain ⟨t, h1, h2⟩ := hbody f cdv A outer s H E hr
    exact ⟨t, h1, read_fn h h2⟩
/-- what is asked of a law -/
def P_law : PrD := fun ds R _ => ∃ ns : List Int, ds = [.scr ns] ∧ R (.im (.bl true))
theorem sp_law {H : Hp} {a : Addr} {ns : List Int} (hS : SqL K H a (ns.map V.int)) : spD K P_law [.ref a] H (fun v _ => v = .bl true) fun _ _ _ => False :=
  ⟨[], H, [.scr ns], fun s => s = .im (.bl true), fun _ => False, Opn.all, .one ⟨a, rfl, hS⟩, ⟨ns, rfl, rfl⟩, fun s v H' T' hs _ _ hr => by
    subst hs
    exact hr.1, fun _ _ _ _ _ _ h => h.elim⟩
theorem law_end {k : Nat} {l : PySem.W.OpenLaw} {oc : Value} {od an : Option Addr} {osl : Array (Option Value)} {kV doc pm cdv ct : Value} {fa : Addr} (X : K.In h) (G : h.Ns mainGlobals mg) (hfa : mg "law" = some (.ref fa)) (a : PySem.W.nsIn K mainGlobals "law" = some (some (.ref f))) (lk : K.lookup f = some ⟨oc, od, .func (PySem.W.fnOf "law" "law" (defArgs st) (defBody st) (defScope st) .none kV doc pm an cdv ct), osl⟩)
    (c : PySem.W.codeIn K cdv "law" = true) (kp : PySem.W.keepIn K (.ref f) = true) (CX : CXT)
    (b : ∀ (s : Shared) (v : Value), BindsTo s (PySem.W.fnOf "law" "law" (defArgs st) (defBody st) (defScope st) .none kV doc pm an cdv ct) ⟨[v], []⟩ [("script", v)])
    (ok : ∀ (fd : FuncData) (base : Heap), Fun K "law" "law" st f fd → FnOk l.prog w K mg base CX k f fd ["script"] (spD K P_law)) :
    ∃ fd : FuncData, (∀ (s : Shared) (v : Value), BindsTo s fd ⟨[v], []⟩ [("script", v)]) ∧ ∀ base : Heap, K.In base → base.Ns mainGlobals mg → FnOk l.prog w K mg base CX k fa fd ["script"] (spD K P_law) := by
  have e := hfa.symm.trans (PySem.W.mg_of X G a)
  cases e
  exact ⟨_, b, fun base _ _ => ok _ base (fun_mk lk c kp)⟩
end
end FS
set_option Elab.async false
set_option linter.all false
set_option maxRecDepth 100000
set_option maxHeartbeats 4000000
namespace FS
open PySem PySem.Spec PyProof.Rows L2

local macro_rules | `(tactic| walk_at "side") => `(tactic| first | assumption | omega | decide)
local macro_rules | `(tactic| walk_at "hv") => `(tactic| (intro i hi; simp at hi; first | (subst hi; rfl) | (rcases hi with rfl | rfl <;> rfl) | (rcases hi with rfl | rfl | rfl <;> rfl)))
local macro_rules | `(tactic| walk_at "pr") => `(tactic| fail "no promise")
local macro_rules | `(tactic| walk_at "rv") => `(tactic| first
  | (with_reducible exact rv_add) | (with_reducible exact rv_sub) | (with_reducible exact rv_lt) | (with_reducible exact rv_le) | (with_reducible exact rv_gt) | (with_reducible exact rv_ge) | (with_reducible exact rv_eq) | (with_reducible exact rv_ne)
  | (with_reducible exact rv_is) | (with_reducible exact rv_isnot)
  | ((with_reducible apply rv_div); first | assumption | exact cdiv_small (by omega) (by omega))
  | ((with_reducible apply rv_mod); first | assumption | omega)
  | ((with_reducible apply rv_mul); first | assumption | exact cmul_left (by omega) | exact cmul_right (by omega))
  | ((with_reducible apply rv_mulW); assumption)
  | (with_reducible exact rv_p8) | (with_reducible exact rv_p18) | (with_reducible exact rv_p40) | (with_reducible exact rv_p20) | (with_reducible exact rv_p6) | (with_reducible exact rv_p7) | (with_reducible exact rv_p12) | (with_reducible exact rv_p25) | (with_reducible exact rv_p30) | (with_reducible exact rv_p39) | (with_reducible exact rv_p60)
  | ((with_reducible apply rv_ixxL); first | assumption | exact at_getD (by omega) (by omega) | exact at_nat rfl)
  | ((with_reducible apply rv_ixxT); first | assumption | exact at_getD (by omega) (by omega) | exact at_nat rfl)
  | ((with_reducible apply rv_ixxC); first | assumption)
  | (with_reducible exact ru_neg))
local macro_rules | `(tactic| walk_at "isi") => `(tactic| first | (with_reducible exact isi_non_int) | (with_reducible exact isi_non_bool) | (with_reducible exact isi_non_str) | (with_reducible exact isi_non_tuple) | (with_reducible exact isi_non_list) | (with_reducible exact isi_bl_int) | (with_reducible exact isi_bl_bool) | (with_reducible exact isi_bl_str) | (with_reducible exact isi_bl_tuple) | (with_reducible exact isi_bl_list) | (with_reducible exact isi_int_int) | (with_reducible exact isi_int_bool) | (with_reducible exact isi_int_str) | (with_reducible exact isi_int_tuple) | (with_reducible exact isi_int_list) | (with_reducible exact isi_str_int) | (with_reducible exact isi_str_bool) | (with_reducible exact isi_str_str) | (with_reducible exact isi_str_tuple) | (with_reducible exact isi_str_list) | (with_reducible exact isi_tup_int) | (with_reducible exact isi_tup_bool) | (with_reducible exact isi_tup_str) | (with_reducible exact isi_tup_tuple) | (with_reducible exact isi_tup_list) | (with_reducible exact isi_lst_int) | (with_reducible exact isi_lst_bool) | (with_reducible exact isi_lst_str) | (with_reducible exact isi_lst_tuple) | (with_reducible exact isi_lst_list))
local macro_rules | `(tactic| walk_at "rc") => `(tactic| first
  | walk_at "isi"
  | (with_reducible exact rc_len) | (with_reducible exact rc_lent) | (with_reducible exact rc_lenc) | (with_reducible exact rc_toint) | (with_reducible exact rc_absv) | (with_reducible exact rc_gcd)
  | ((with_reducible apply rc_lcm); assumption)
  | ((with_reducible apply rc_isi); (focus rfl); assumption)
  | (with_reducible exact rco_list) | (with_reducible exact rco_listT))
local macro_rules | `(tactic| walk_at "ev") => `(tactic| first
  | (with_reducible exact ev_int) | (with_reducible exact ev_bl) | (with_reducible exact ev_non) | (with_reducible exact ev_str) | (with_reducible exact ev_ty)
  | ((with_reducible apply ev_var); rfl)
  | ((with_reducible apply ev_lenOw); rfl)
  | ((with_reducible apply ev_op) <;> first | walk_at "ev" | walk_at "rv")
  | ((with_reducible apply ev_un) <;> first | walk_at "ev" | walk_at "rv")
  | ((with_reducible apply ev_cb) <;> first | walk_at "ev" | walk_at "rc")
  | ((with_reducible apply ev_call) <;> first | walk_at "ev" | walk_at "pr")
  | ((with_reducible apply ev_tup) <;> first | walk_at "ev" | (simp; done))
  | (with_reducible exact ea_nil)
  | ((with_reducible apply ea_cons) <;> walk_at "ev")
  | ((with_reducible apply et_test); walk_at "ev")
  | ((with_reducible apply et_B); walk_at "ev")
  | ((with_reducible apply et_not); walk_at "ev")
  | ((with_reducible apply et_or); (walk_at "ev"); intro _; walk_at "ev")
  | ((with_reducible apply et_and); (walk_at "ev"); intro _; walk_at "ev")
  | ((with_reducible apply ev_orV); (walk_at "ev"); intro _; walk_at "ev")
  | ((with_reducible apply ev_andV); (walk_at "ev"); intro _; walk_at "ev")
  | ((with_reducible apply ev_notV); walk_at "ev")
  | (with_reducible exact et_yes)
  | ((with_reducible apply evo_lst) <;> first | walk_at "ev" | (simp; done))
  | ((with_reducible apply ev_opO) <;> first | walk_at "ev" | ((with_reducible apply rvo_add); simp; omega))
  | ((with_reducible apply ev_cbO) <;> first | walk_at "ev" | walk_at "rc")
  | ((with_reducible apply ev_callO) <;> first | walk_at "ev" | walk_at "pr")
  | ((with_reducible apply ec_call) <;> first | walk_at "ev" | walk_at "pr")
  | ((with_reducible apply ec_tup) <;> first | walk_at "ev" | (simp; done))
  | ((with_reducible apply ec_lst) <;> first | walk_at "ev" | (simp; done))
  | (with_reducible exact eca_nil)
  | ((with_reducible apply eca_cons) <;> walk_at "ev")
  | ((with_reducible apply ec_sc); (walk_at "ev"); rfl)
  | ((with_reducible apply ec_ow); (walk_at "ev"); first | assumption | (intro d hd; simp at hd; done))
  | ((with_reducible apply ec_fz); walk_at "ev")
  | ((with_reducible apply ev_fz); walk_at "ev"))

local macro_rules | `(tactic| walk_at "im") => `(tactic| ((with_reducible apply wq_asg); walk_at "ev"; (try dsimp only [List.set, Int.reduceToNat])))
local macro_rules | `(tactic| walk_at "ow") => `(tactic| ((with_reducible apply wq_asgO); walk_at "ev"; (focus (first | decide | (simp; done))); (try dsimp only [List.set, Int.reduceToNat])))
local macro_rules | `(tactic| walk_at "cl") => `(tactic| ((with_reducible apply wq_asgC); walk_at "ev"; (focus (first | decide | (simp; done))); (try dsimp only [List.set, Int.reduceToNat])))
local macro_rules | `(tactic| walk_at "if") => `(tactic| ((first | (with_reducible apply wq_when) | (with_reducible apply wq_if) | (with_reducible apply ws_if)); walk_at "ev"; (try dsimp only [Int.reduceToNat])))
local macro_rules | `(tactic| walk_at "ret") => `(tactic| ((with_reducible apply ws_ret); walk_at "ev"))
local macro_rules | `(tactic| walk_at "go") => `(tactic| (try dsimp only [cxOf, L2.Cx.nox, L2.Cx.wish, L2.Cx.blk]))
local macro_rules | `(tactic| walk_at "ints") => `(tactic| (refine ev_fz (evo_lst ?_ (by decide)); repeat (first | exact ea_nil | refine ea_cons ev_int ?_)))

def topS (i : Nat) : Stmt := PySem.Challenge.pw_fairstart_k01_whole_factors.main.body.getD i (.Pass ⟨0, 0, 0, 0⟩)
structure Gm (mg : Str → Option Value) : Prop where
  len : mg "len" = none
  int : mg "int" = none
  abs : mg "abs" = none
  range : mg "range" = none
  list : mg "list" = none
  bool : mg "bool" = none
  tuple : mg "tuple" = none
  isinstance : mg "isinstance" = none
  lcm : mg "lcm" = some (.builtin "math.lcm")
theorem map_get {α : Type} {f : α → D} {l : List α} {i : Nat} {d : D} (h : (l.map f)[i]? = some d) : ∃ x, l[i]? = some x ∧ d = f x := by
  rw [List.getElem?_map] at h
  cases e : l[i]? with
  | none => rw [e] at h; cases h
  | some x =>
    rw [e] at h
    exact ⟨x, rfl, (Option.some.inj h).symm⟩
theorem drop_get {α : Type} {l : List α} {i : Nat} {x : α} (h : l[i]? = some x) : l.drop i = x :: l.drop (i + 1) := by
  obtain ⟨hi, e⟩ := List.getElem?_eq_some_iff.mp h
  rw [List.drop_eq_getElem_cons hi, e]
section
variable {P : Program} {w : World} {K : PySem.W.Frag} {mg : Str → Option Value} {base : Heap}

/-! ### the script's cells -/
def cell (ns : List Int) (k : Int) : Int := if k < ns.length then ns.getD k.toNat 0 else 31 * k + 5
def P_cell : PrD := fun ds R _ => ∃ ns k, ds = [.scr ns, .int k] ∧ 0 ≤ k ∧ R (.im (.int (cell ns k)))
abbrev s_law_cell : Stmt := topS 4
theorem sc_law_cell : FnScope ["script", "k"] ["script", "k"] (defScope s_law_cell) := ⟨rfl, rfl, rfl, by decide +kernel, rfl, by decide +kernel, by decide +kernel⟩
theorem ok_cell (F : Df K mg "_law_cell" s_law_cell ["script", "k"]) (gm : Gm mg) : FnG P w K mg base CX0 1 "_law_cell" ["script", "k"] (spD K P_cell) := by
  refine F.ok (k := 0) sc_law_cell (fun ds R Z ⟨ns, k, e, _⟩ => by rw [e] <;> rfl) (fun f cdv A outer s H E hr => ?_)
  refine ⟨_,
    (pss_cons (ps_if (pt_cmpR opLt (pv 1) (cb (kLen K) gm.len (pa_cons (pv 0) pa_nil)) (nomark _)) (pss_one (ps_ret (ix K (pv 0) (pv 1)))) pss_nil)
    (pss_one (ps_ret (pe_op (kAdd K) (pe_op opMul pe_int (pv 1)) pe_int)))), fun ds R Z p => ?_⟩
  obtain ⟨ns, k, rfl, h0, p⟩ := p
  refine ws_to (ρ' := [.im (.scr ns), .im (.int k)]) rfl ?_
  walk_at "go"
  walk_at "if" <;> intro hb
  · have hb : k < ns.length := of_decide_eq_true hb
    have hi := atI_getD h0 hb
    unfold cell at p
    rw [if_pos hb] at p
    walk_at "ret"
    exact p
  · have hb : ¬ k < ns.length := of_decide_eq_false hb
    unfold cell at p
    rw [if_neg hb] at p
    walk_at "ret"
    exact p
theorem pr_cell {ns : List Int} {k : Int} (h : 0 ≤ k) : P_cell [.scr ns, .int k] (fun s => s = .im (.int (cell ns k))) (fun _ => False) := ⟨ns, k, rfl, h, rfl⟩

/-! ### draws -/
def P_draws : PrD := fun ds R _ => ∃ c sizes, ds = [.int c, .lst (sizes.map .int)] ∧ (∀ s ∈ sizes, 0 < s ∧ s < 2 ^ 200) ∧ sizes.length ≤ 1000 ∧ R (.cl (.lst ((draws c sizes).map .int)))
abbrev s_law_draws : Stmt := topS 5
theorem sc_law_draws : FnScope ["cell", "sizes", "told", "rest", "size", "seed", "k", "mixed"] ["cell", "sizes"] (defScope s_law_draws) := ⟨rfl, rfl, rfl, by decide +kernel, rfl, by decide +kernel, by decide +kernel⟩
theorem cdiv_200 {i j : Int} (h : 0 < j) (h2 : j < 2 ^ 200) : CDivW i j := wide_div (b := 200) h (by omega) (by decide) (by decide)
theorem scal_ints (l : List Int) : ∀ d ∈ l.map D.int, d.sc = true := by
  intro d hd
  obtain ⟨x, _, rfl⟩ := List.mem_map.mp hd
  rfl
theorem ok_draws (F : Df K mg "_law_draws" s_law_draws ["cell", "sizes"]) (gm : Gm mg) : FnG P w K mg base CX0 1 "_law_draws" ["cell", "sizes"] (spD K P_draws) := by
  refine F.ok (k := 0) sc_law_draws (fun ds R Z ⟨c, sizes, e, _⟩ => by rw [e] <;> rfl) (fun f cdv A outer s H E hr => ?_)
  refine ⟨_,
    (pss_cons (sv 2 sc_law_draws.nd (pe_lst pa_nil))
    (pss_cons (sv 3 sc_law_draws.nd (ct cInt gm.int (pa_cons (pv 0) pa_nil)))
    (pss_cons (ps_if (pt_cmpR opGe (pv 3) (pe_op opPow pe_int pe_int) (nomark _)) (pss_cons (sv 3 sc_law_draws.nd (pe_op opSub (pv 3) (pe_op opPow pe_int pe_int))) (pss_cons (ps_for PassesOwn.never rfl (pl K (pv 1)) (gn 4 sc_law_draws.nd) (pss_cons (ps_expr (ml_append K (pv 2) (pa_cons (pe_op opMod (ct cInt gm.int (pa_cons (pv 3) pa_nil)) (pv 4)) pa_nil))) (pss_one (sv 3 sc_law_draws.nd (pe_op opDiv (pv 3) (pv 4)))))) (pss_one (ps_ret (pv 2))))) pss_nil)
    (pss_cons (sv 5 sc_law_draws.nd (pe_op opMod (ct cInt gm.int (pa_cons (pv 3) pa_nil)) pe_int))
    (pss_cons (ps_for PassesOwn.never rfl (pi_range1 (by rfl) gm.range (pa_cons (cb (kLen K) gm.len (pa_cons (pv 1) pa_nil)) pa_nil)) (gn 6 sc_law_draws.nd) (pss_cons (sv 5 sc_law_draws.nd (pe_op opMod (ct cInt gm.int (pa_cons (pe_op (kAdd K) (pe_op (kAdd K) (pe_op opMul (pv 5) pe_int) (pe_op opMul pe_int (pv 6))) pe_int) pa_nil)) pe_int)) (pss_cons (sv 7 sc_law_draws.nd (pe_op opMod (ct cInt gm.int (pa_cons (pe_op (kAdd K) (pe_op (kAdd K) (pe_op opMul (pv 5) pe_int) (pe_op opMul pe_int (pv 6))) pe_int) pa_nil)) pe_int)) (pss_one (ps_expr (ml_append K (pv 2) (pa_cons (pe_op opMod (ct cInt gm.int (pa_cons (pe_op opDiv (pv 7) pe_int) pa_nil)) (ix K (pv 1) (pv 6))) pa_nil)))))))
    (pss_one (ps_ret (pv 2)))))))), fun ds R Z p => ?_⟩
  obtain ⟨c, sizes, rfl, hsz, hl, p⟩ := p
  refine ws_to (ρ' := [.im (.int c), .im (.lst (sizes.map .int)), .no, .no, .no, .no, .no, .no]) rfl ?_
  walk_at "go"
  walk_at "ow"
  walk_at "im"
  walk_at "if" <;> intro hb
  · have hb : (1000000000000000000 : Int) ≤ c := of_decide_eq_true hb
    rw [draws, if_pos hb] at p
    walk_at "im"
    refine wq_for (src_list (ev_var rfl)) (fun i ρ' => ∃ told rest s4, ρ' = [.im (.int c), .im (.lst (sizes.map .int)), .ow (told.map .int), .im (.int rest), s4, .no, .no, .no] ∧ told.length = i ∧ told ++ drawsBig rest (sizes.drop i) = drawsBig (c - 1000000000000000000) sizes) ⟨[], _, .no, rfl, rfl, rfl⟩ ?_ ?_
    · rintro i d ρ' hd ⟨told, rest, s4, rfl, hi, e⟩
      obtain ⟨x, hx, rfl⟩ := map_get hd
      have hb2 := hsz x (List.mem_of_getElem? hx)
      have hi2 := (List.getElem?_eq_some_iff.mp hx).1
      refine ⟨_, gd_name, ?_⟩
      dsimp only [setD, List.set]
      have hx0 : 0 < x := hb2.1
      have hdv : ∀ z, CDivW z x := fun z => cdiv_200 hb2.1 hb2.2
      refine wq_app rfl (d := .int (rest % x)) (by walk_at "ev") (by rw [List.length_map]; omega) ?_
      dsimp only [List.set]
      refine ws_asg (d := .int (rest / x)) (ev_op (ev_var rfl) (ev_var rfl) (rv_div (hdv _))) ?_
      refine ⟨told ++ [rest % x], rest / x, .im (.int x), ?_, by rw [List.length_append, hi]; rfl, ?_⟩
      · rw [List.map_append]; rfl
      · rw [← e, drop_get hx, drawsBig, List.append_assoc]; rfl
    · rintro ρ' ⟨told, rest, s4, rfl, hi, e⟩
      rw [List.length_map, List.drop_length, drawsBig, List.append_nil] at e
      refine ws_owcl (i := 2) rfl (scal_ints _) ?_
      refine ws_retVc rfl ?_
      rw [e]
      exact p
  · have hb : ¬ (1000000000000000000 : Int) ≤ c := of_decide_eq_false hb
    rw [draws, if_neg hb] at p
    walk_at "im"
    refine wq_for (src_rng1 (n := ((sizes.map D.int).length : Int)) (by walk_at "ev") (by rw [List.length_map]; omega)) (fun i ρ' => ∃ told seed s6 s7, ρ' = [.im (.int c), .im (.lst (sizes.map .int)), .ow (told.map .int), .im (.int c), .no, .im (.int seed), s6, s7] ∧ told.length = i ∧ told ++ drawsLow seed i (sizes.drop i) = drawsLow (c % 2147483647) 0 sizes) ⟨[], _, .no, .no, rfl, rfl, rfl⟩ ?_ ?_
    · rintro i d ρ' hd ⟨told, seed, s6, s7, rfl, hi, e⟩
      obtain ⟨hi2, rfl⟩ := rng_get hd
      have hi3 : i < sizes.length := by rw [List.length_map] at hi2; omega
      obtain ⟨x, hx⟩ := get_some hi3
      have hb2 := hsz x (List.mem_of_getElem? hx)
      have hx0 : 0 < x := hb2.1
      refine ⟨_, gd_name, ?_⟩
      dsimp only [setD, List.set]
      rw [Int.zero_add]
      have hxi : atI (sizes.map D.int) (i : Int) = some (.int x) := at_map hx
      walk_at "im"
      walk_at "im"
      refine ws_app rfl (d := .int ((((seed * 48271 + 11 * i + 7) % 2147483647) * 69621 + 3 * i + 1) % 2147483629 / 7 % x)) (by walk_at "ev") (by rw [List.length_map]; omega) ?_
      refine ⟨told ++ [(((seed * 48271 + 11 * i + 7) % 2147483647) * 69621 + 3 * i + 1) % 2147483629 / 7 % x], (seed * 48271 + 11 * i + 7) % 2147483647, .im (.int i), .im (.int ((((seed * 48271 + 11 * i + 7) % 2147483647) * 69621 + 3 * i + 1) % 2147483629)), ?_, by rw [List.length_append, hi]; rfl, ?_⟩
      · rw [List.map_append]; rfl
      · rw [← e, drop_get hx, drawsLow, List.append_assoc]
        rfl
    · rintro ρ' ⟨told, seed, s6, s7, rfl, hi, e⟩
      rw [rng_len, List.length_map, Int.toNat_natCast, List.drop_length, drawsLow, List.append_nil] at e
      refine ws_owcl (i := 2) rfl (scal_ints _) ?_
      refine ws_retVc rfl ?_
      rw [e]
      exact p
end
end FS
set_option Elab.async false
set_option linter.all false
set_option maxRecDepth 100000
set_option maxHeartbeats 4000000
namespace FS
open PySem PySem.Spec PyProof.Rows L2

local macro_rules | `(tactic| walk_at "side") => `(tactic| first | assumption | omega | decide)
local macro_rules | `(tactic| walk_at "hv") => `(tactic| (intro i hi; simp at hi; first | (subst hi; rfl) | (rcases hi with rfl | rfl <;> rfl) | (rcases hi with rfl | rfl | rfl <;> rfl)))
local macro_rules | `(tactic| walk_at "pr") => `(tactic| fail "no promise")
local macro_rules | `(tactic| walk_at "rv") => `(tactic| first
  | (with_reducible exact rv_add) | (with_reducible exact rv_sub) | (with_reducible exact rv_lt) | (with_reducible exact rv_le) | (with_reducible exact rv_gt) | (with_reducible exact rv_ge) | (with_reducible exact rv_eq) | (with_reducible exact rv_ne)
  | (with_reducible exact rv_is) | (with_reducible exact rv_isnot)
  | ((with_reducible apply rv_div); first | assumption | exact cdiv_small (by omega) (by omega))
  | ((with_reducible apply rv_mod); first | assumption | omega)
  | ((with_reducible apply rv_mul); first | assumption | exact cmul_left (by omega) | exact cmul_right (by omega))
  | ((with_reducible apply rv_mulW); assumption)
  | (with_reducible exact rv_p8) | (with_reducible exact rv_p18) | (with_reducible exact rv_p40) | (with_reducible exact rv_p20) | (with_reducible exact rv_p6) | (with_reducible exact rv_p7) | (with_reducible exact rv_p12) | (with_reducible exact rv_p25) | (with_reducible exact rv_p30) | (with_reducible exact rv_p39) | (with_reducible exact rv_p60)
  | ((with_reducible apply rv_ixxL); first | assumption | exact at_getD (by omega) (by omega) | exact at_nat rfl)
  | ((with_reducible apply rv_ixxT); first | assumption | exact at_getD (by omega) (by omega) | exact at_nat rfl)
  | ((with_reducible apply rv_ixxC); first | assumption)
  | (with_reducible exact ru_neg))
local macro_rules | `(tactic| walk_at "isi") => `(tactic| first | (with_reducible exact isi_non_int) | (with_reducible exact isi_non_bool) | (with_reducible exact isi_non_str) | (with_reducible exact isi_non_tuple) | (with_reducible exact isi_non_list) | (with_reducible exact isi_bl_int) | (with_reducible exact isi_bl_bool) | (with_reducible exact isi_bl_str) | (with_reducible exact isi_bl_tuple) | (with_reducible exact isi_bl_list) | (with_reducible exact isi_int_int) | (with_reducible exact isi_int_bool) | (with_reducible exact isi_int_str) | (with_reducible exact isi_int_tuple) | (with_reducible exact isi_int_list) | (with_reducible exact isi_str_int) | (with_reducible exact isi_str_bool) | (with_reducible exact isi_str_str) | (with_reducible exact isi_str_tuple) | (with_reducible exact isi_str_list) | (with_reducible exact isi_tup_int) | (with_reducible exact isi_tup_bool) | (with_reducible exact isi_tup_str) | (with_reducible exact isi_tup_tuple) | (with_reducible exact isi_tup_list) | (with_reducible exact isi_lst_int) | (with_reducible exact isi_lst_bool) | (with_reducible exact isi_lst_str) | (with_reducible exact isi_lst_tuple) | (with_reducible exact isi_lst_list))
local macro_rules | `(tactic| walk_at "rc") => `(tactic| first
  | walk_at "isi"
  | (with_reducible exact rc_len) | (with_reducible exact rc_lent) | (with_reducible exact rc_lenc) | (with_reducible exact rc_toint) | (with_reducible exact rc_absv) | (with_reducible exact rc_gcd)
  | ((with_reducible apply rc_lcm); assumption)
  | ((with_reducible apply rc_isi); (focus rfl); assumption)
  | (with_reducible exact rco_list) | (with_reducible exact rco_listT))
local macro_rules | `(tactic| walk_at "ev") => `(tactic| first
  | (with_reducible exact ev_int) | (with_reducible exact ev_bl) | (with_reducible exact ev_non) | (with_reducible exact ev_str) | (with_reducible exact ev_ty)
  | ((with_reducible apply ev_var); rfl)
  | ((with_reducible apply ev_lenOw); rfl)
  | ((with_reducible apply ev_op) <;> first | walk_at "ev" | walk_at "rv")
  | ((with_reducible apply ev_un) <;> first | walk_at "ev" | walk_at "rv")
  | ((with_reducible apply ev_cb) <;> first | walk_at "ev" | walk_at "rc")
  | ((with_reducible apply ev_call) <;> first | walk_at "ev" | walk_at "pr")
  | ((with_reducible apply ev_tup) <;> first | walk_at "ev" | (simp; done))
  | (with_reducible exact ea_nil)
  | ((with_reducible apply ea_cons) <;> walk_at "ev")
  | ((with_reducible apply et_test); walk_at "ev")
  | ((with_reducible apply et_B); walk_at "ev")
  | ((with_reducible apply et_not); walk_at "ev")
  | ((with_reducible apply et_or); (walk_at "ev"); intro _; walk_at "ev")
  | ((with_reducible apply et_and); (walk_at "ev"); intro _; walk_at "ev")
  | ((with_reducible apply ev_orV); (walk_at "ev"); intro _; walk_at "ev")
  | ((with_reducible apply ev_andV); (walk_at "ev"); intro _; walk_at "ev")
  | ((with_reducible apply ev_notV); walk_at "ev")
  | (with_reducible exact et_yes)
  | ((with_reducible apply evo_lst) <;> first | walk_at "ev" | (simp; done))
  | ((with_reducible apply ev_opO) <;> first | walk_at "ev" | ((with_reducible apply rvo_add); simp; omega))
  | ((with_reducible apply ev_cbO) <;> first | walk_at "ev" | walk_at "rc")
  | ((with_reducible apply ev_callO) <;> first | walk_at "ev" | walk_at "pr")
  | ((with_reducible apply ec_call) <;> first | walk_at "ev" | walk_at "pr")
  | ((with_reducible apply ec_tup) <;> first | walk_at "ev" | (simp; done))
  | ((with_reducible apply ec_lst) <;> first | walk_at "ev" | (simp; done))
  | (with_reducible exact eca_nil)
  | ((with_reducible apply eca_cons) <;> walk_at "ev")
  | ((with_reducible apply ec_sc); (walk_at "ev"); rfl)
  | ((with_reducible apply ec_ow); (walk_at "ev"); first | assumption | (intro d hd; simp at hd; done))
  | ((with_reducible apply ec_fz); walk_at "ev")
  | ((with_reducible apply ev_fz); walk_at "ev"))

local macro_rules | `(tactic| walk_at "im") => `(tactic| ((with_reducible apply wq_asg); walk_at "ev"; (try dsimp only [List.set, Int.reduceToNat])))
local macro_rules | `(tactic| walk_at "ow") => `(tactic| ((with_reducible apply wq_asgO); walk_at "ev"; (focus (first | decide | (simp; done))); (try dsimp only [List.set, Int.reduceToNat])))
local macro_rules | `(tactic| walk_at "cl") => `(tactic| ((with_reducible apply wq_asgC); walk_at "ev"; (focus (first | decide | (simp; done))); (try dsimp only [List.set, Int.reduceToNat])))
local macro_rules | `(tactic| walk_at "if") => `(tactic| ((first | (with_reducible apply wq_when) | (with_reducible apply wq_if) | (with_reducible apply ws_if)); walk_at "ev"; (try dsimp only [Int.reduceToNat])))
local macro_rules | `(tactic| walk_at "ret") => `(tactic| ((with_reducible apply ws_ret); walk_at "ev"))
local macro_rules | `(tactic| walk_at "go") => `(tactic| (try dsimp only [cxOf, L2.Cx.nox, L2.Cx.wish, L2.Cx.blk]))
local macro_rules | `(tactic| walk_at "ints") => `(tactic| (refine ev_fz (evo_lst ?_ (by decide)); repeat (first | exact ea_nil | refine ea_cons ev_int ?_)))
section
variable {P : Program} {w : World} {K : PySem.W.Frag} {mg : Str → Option Value} {base : Heap}
theorem pr_draws {c : Int} {sizes : List Int} (h : ∀ s ∈ sizes, 0 < s ∧ s < 2 ^ 200) (hl : sizes.length ≤ 1000) : P_draws [.int c, .lst (sizes.map .int)] (fun s => s = .cl (.lst ((draws c sizes).map .int))) (fun _ => False) := ⟨c, sizes, rfl, h, hl, rfl⟩
theorem ws_cut {K : PySem.W.Frag} {E : XK} {t u : TS} {ρ : Rho} {P : Pst} (ρm : Rho) (h : Ws K E t ρ { P with nx := fun ρ' => ρ' = ρm }) (h2 : Ws K E u ρm P) : Ws K E (tSeq t u) ρ P :=
  ws_seq (ws_mono h (fun ρ' e => by rw [show ρ' = ρm from e]; exact h2) (fun _ q => q) (fun _ q => q) (fun _ q => q) fun _ q => q)
/-! ### _law_gcd -/
def P_gcd (k : Nat) : PrD := fun ds R _ => ∃ a b : Int, ds = [.int a, .int b] ∧ 0 ≤ a ∧ 0 ≤ b ∧ b < 2 ^ k ∧ R (.im (.int (Nat.gcd a.natAbs b.natAbs : Nat)))
theorem pr_gcd {k : Nat} {a b : Int} (h0 : 0 ≤ a) (h1 : 0 ≤ b) (h2 : b < 2 ^ k) : P_gcd k [.int a, .int b] (fun s => s = .im (.int (Nat.gcd a.natAbs b.natAbs : Nat))) (fun _ => False) := ⟨a, b, rfl, h0, h1, h2, rfl⟩
abbrev s_law_gcd : Stmt := topS 6
theorem sc_law_gcd : FnScope ["first", "second", "k", "rest"] ["first", "second"] (defScope s_law_gcd) := ⟨rfl, rfl, rfl, by decide +kernel, rfl, by decide +kernel, by decide +kernel⟩
theorem ok_gcd (F : Df K mg "_law_gcd" s_law_gcd ["first", "second"]) (gm : Gm mg) : FnG P w K mg base CX0 1 "_law_gcd" ["first", "second"] (spD K (P_gcd 1999)) := by
  refine F.ok (k := 0) sc_law_gcd (fun ds R Z ⟨a, b, e, _⟩ => by rw [e] <;> rfl) (fun f cdv A outer s H E hr => ?_)
  refine ⟨_,
    (pss_cons (ps_for PassesOwn.never rfl (pi_range1 (by rfl) gm.range (pa_cons pe_int pa_nil)) (gn 2 sc_law_gcd.nd) (pss_cons (ps_if (pt_cmpR (kEq K hr.units) (pv 1) pe_int (nomark _)) (pss_one (ps_ret (pv 0))) pss_nil) (pss_cons (sv 3 sc_law_gcd.nd (pe_op opMod (ct cInt gm.int (pa_cons (pv 0) pa_nil)) (pv 1))) (pss_cons (sv 0 sc_law_gcd.nd (pv 1)) (pss_one (sv 1 sc_law_gcd.nd (pv 3)))))))
    (pss_one (ps_ret (pv 0)))), fun ds R Z p => ?_⟩
  obtain ⟨a0, b0, rfl, h0, h1, h2, p⟩ := p
  obtain ⟨a, rfl⟩ : ∃ a : Nat, a0 = a := ⟨a0.toNat, by omega⟩
  obtain ⟨b, rfl⟩ : ∃ b : Nat, b0 = b := ⟨b0.toNat, by omega⟩
  rw [Int.natAbs_natCast, Int.natAbs_natCast] at p
  have hb : b < 2 ^ 1999 := by
    have : (b : Int) < ((2 ^ 1999 : Nat) : Int) := by
      rw [Int.natCast_pow]
      exact h2
    exact Int.ofNat_lt.mp this
  refine ws_to (ρ' := [.im (.int a), .im (.int b), .no, .no]) rfl ?_
  walk_at "go"
  refine wq_for (src_rng1 (n := 4000) (by walk_at "ev") (by decide)) (fun i ρ' => ∃ (x y : Nat) (s2 s3 : Sl), ρ' = [.im (.int x), .im (.int y), s2, s3] ∧ Eu a b x y i) ⟨a, b, .no, .no, rfl, Eu.start a b⟩ ?_ ?_
  · rintro i d ρ' hd ⟨x, y, s2, s3, rfl, eu⟩
    obtain ⟨_, rfl⟩ := rng_get hd
    refine ⟨_, gd_name, ?_⟩
    dsimp only [setD, List.set]
    walk_at "if" <;> intro hb
    · have hy : (y : Int) = 0 := of_decide_eq_true hb
      have hy : y = 0 := by omega
      refine ws_ret (ev_var rfl) ?_
      show R _
      rw [eu.stop hy]
      exact p
    · have hy : ¬ (y : Int) = 0 := of_decide_eq_false hb
      have hy0 : 0 < (y : Int) := by omega
      walk_at "im"
      walk_at "im"
      refine ws_asg (ev_var rfl) ?_
      exact ⟨y, x % y, _, _, by rw [Int.natCast_emod]; rfl, eu.turn (by omega)⟩
  · rintro ρ' ⟨x, y, s2, s3, rfl, eu⟩
    refine ws_ret (ev_var rfl) ?_
    show R _
    rw [eu.stop (eu.done hb (by rw [rng_len]; decide))]
    exact p

/-! ### _law_ratio -/
def P_ratio (k : Nat) : PrD := fun ds R _ => ∃ n d : Int, ds = [.int n, .int d] ∧ 0 < d ∧ d < 2 ^ k ∧ R (.cl (numD (mk n d)))
theorem pr_ratio {k : Nat} {n d : Int} (h0 : 0 < d) (h1 : d < 2 ^ k) : P_ratio k [.int n, .int d] (fun s => s = .cl (numD (mk n d))) (fun _ => False) := ⟨n, d, rfl, h0, h1, rfl⟩
abbrev s_law_ratio : Stmt := topS 8
theorem sc_law_ratio : FnScope ["n", "d", "common"] ["n", "d"] (defScope s_law_ratio) := ⟨rfl, rfl, rfl, by decide +kernel, rfl, by decide +kernel, by decide +kernel⟩
theorem ok_ratio (F : Df K mg "_law_ratio" s_law_ratio ["n", "d"]) (gm : Gm mg) (G_law_gcd : FnG P w K mg base CX0 1 "_law_gcd" ["first", "second"] (spD K (P_gcd 1999))) : FnG P w K mg base CX0 2 "_law_ratio" ["n", "d"] (spD K (P_ratio 1999)) := by
  refine F.ok (k := 1) sc_law_ratio (fun ds R Z ⟨a, b, e, _⟩ => by rw [e] <;> rfl) (fun f cdv A outer s H E hr => ?_)
  refine ⟨_,
    (pss_cons (sv 2 sc_law_ratio.nd (pe_g G_law_gcd hr.le pass0 (pa_cons (cb cAbs gm.abs (pa_cons (pv 0) pa_nil)) (pa_cons (pv 1) pa_nil))))
    (pss_one (ps_ret (pe_tup (pa_cons (pe_op opDiv (pv 0) (pv 2)) (pa_cons (pe_op opDiv (pv 1) (pv 2)) pa_nil)))))), fun ds R Z p => ?_⟩
  obtain ⟨n, d, rfl, h0, h1, p⟩ := p
  refine ws_to (ρ' := [.im (.int n), .im (.int d), .no]) rfl ?_
  walk_at "go"
  refine wq_asg (ev_call (by walk_at "ev") (pr_gcd (by omega) (by omega) h1)) ?_
  rw [Int.natAbs_natCast]
  have g0 : 0 < Nat.gcd n.natAbs d.natAbs := gcd_pos' h0
  have g1 : Nat.gcd n.natAbs d.natAbs ≤ d.natAbs := Nat.gcd_le_right _ (by omega)
  have g2 : d.natAbs < 2 ^ 1999 := by
    have : (d.natAbs : Int) < ((2 ^ 1999 : Nat) : Int) := by
      rw [Int.natCast_pow, Int.natAbs_of_nonneg (by omega)]
      exact h1
    exact Int.ofNat_lt.mp this
  have cd : ∀ z, CDivW z (Nat.gcd n.natAbs d.natAbs : Nat) := fun z => wide_div (b := 1999) (by omega) (by rw [Int.natAbs_natCast]; exact Nat.lt_of_le_of_lt g1 g2) (by decide) (by decide)
  dsimp only [List.set]
  have c1 := cd n
  have c2 := cd d
  apply ws_retC
  · walk_at "ev"
  · exact p

/-! ### _law_long -/
def longN (dr : List Int) (j : Nat) : Nat → Int
  | 0 => 0
  | k + 1 => longN dr j k * 100000000 + dr.getD (j + k) 0
theorem longN_bd {dr : List Int} {j : Nat} : ∀ k : Nat, (∀ i < k, 0 ≤ dr.getD (j + i) 0 ∧ dr.getD (j + i) 0 < 100000000) → 0 ≤ longN dr j k ∧ longN dr j k < 100000000 ^ k
  | 0, _ => ⟨by simp [longN], by simp [longN]⟩
  | k + 1, h => by
    obtain ⟨a, b⟩ := longN_bd k fun i hi => h i (by omega)
    obtain ⟨c, d⟩ := h k (by omega)
    rw [longN, Int.pow_succ]
    omega
def P_long : PrD := fun ds R _ => ∃ (dr : List Int) (j : Int), ds = [.lst (dr.map .int), .int j] ∧ 0 ≤ j ∧ j.toNat + 5 ≤ dr.length ∧ R (.im (.int (longN dr j.toNat 5)))
theorem pr_long {dr : List Int} {j : Int} (h0 : 0 ≤ j) (h : j.toNat + 5 ≤ dr.length) : P_long [.lst (dr.map .int), .int j] (fun s => s = .im (.int (longN dr j.toNat 5))) (fun _ => False) := ⟨dr, j, rfl, h0, h, rfl⟩
abbrev s_law_long : Stmt := topS 9
theorem sc_law_long : FnScope ["drawn", "at", "n", "k"] ["drawn", "at"] (defScope s_law_long) := ⟨rfl, rfl, rfl, by decide +kernel, rfl, by decide +kernel, by decide +kernel⟩
theorem ok_long (F : Df K mg "_law_long" s_law_long ["drawn", "at"]) (gm : Gm mg) : FnG P w K mg base CX0 1 "_law_long" ["drawn", "at"] (spD K P_long) := by
  refine F.ok (k := 0) sc_law_long (fun ds R Z ⟨a, b, e, _⟩ => by rw [e] <;> rfl) (fun f cdv A outer s H E hr => ?_)
  refine ⟨_,
    (pss_cons (sv 2 sc_law_long.nd pe_int)
    (pss_cons (ps_for PassesOwn.never rfl (pi_range1 (by rfl) gm.range (pa_cons pe_int pa_nil)) (gn 3 sc_law_long.nd) (pss_one (sv 2 sc_law_long.nd (pe_op (kAdd K) (pe_op opMul (pv 2) (pe_op opPow pe_int pe_int)) (ix K (pv 0) (pe_op (kAdd K) (pv 1) (pv 3)))))))
    (pss_one (ps_ret (pv 2))))), fun ds R Z p => ?_⟩
  obtain ⟨dr, j, rfl, h0, h1, p⟩ := p
  refine ws_to (ρ' := [.im (.lst (dr.map .int)), .im (.int j), .no, .no]) rfl ?_
  walk_at "go"
  walk_at "im"
  refine wq_for (src_rng1 (n := 5) (by walk_at "ev") (by decide)) (fun i ρ' => ∃ s3, ρ' = [.im (.lst (dr.map .int)), .im (.int j), .im (.int (longN dr j.toNat i)), s3]) ⟨.no, rfl⟩ ?_ ?_
  · rintro i d ρ' hd ⟨s3, rfl⟩
    obtain ⟨hi, rfl⟩ := rng_get hd
    refine ⟨_, gd_name, ?_⟩
    dsimp only [setD, List.set]
    have hi5 : i < 5 := hi
    have e : j + (0 + (i : Int)) = ((j.toNat + i : Nat) : Int) := by omega
    have ha : atI (dr.map D.int) (j + (0 + (i : Int))) = some (.int (dr.getD (j.toNat + i) 0)) := by
      rw [e]
      exact at_ints (by omega)
    refine ws_asg (d := .int (longN dr j.toNat i * 100000000 + dr.getD (j.toNat + i) 0)) (by walk_at "ev") ⟨_, rfl⟩
  · rintro ρ' ⟨s3, rfl⟩
    refine ws_ret (ev_var rfl) ?_
    rw [rng_len]
    exact p
end
end FS
set_option Elab.async false
set_option linter.all false
set_option maxRecDepth 100000
set_option maxHeartbeats 4000000
namespace FS
open PySem PySem.Spec PyProof.Rows L2

local macro_rules | `(tactic| walk_at "side") => `(tactic| first | assumption | omega | decide)
local macro_rules | `(tactic| walk_at "hv") => `(tactic| (intro i hi; simp at hi; first | (subst hi; rfl) | (rcases hi with rfl | rfl <;> rfl) | (rcases hi with rfl | rfl | rfl <;> rfl)))
local macro_rules | `(tactic| walk_at "pr") => `(tactic| fail "no promise")
local macro_rules | `(tactic| walk_at "rv") => `(tactic| first
  | (with_reducible exact rv_add) | (with_reducible exact rv_sub) | (with_reducible exact rv_lt) | (with_reducible exact rv_le) | (with_reducible exact rv_gt) | (with_reducible exact rv_ge) | (with_reducible exact rv_eq) | (with_reducible exact rv_ne)
  | (with_reducible exact rv_is) | (with_reducible exact rv_isnot)
  | ((with_reducible apply rv_div); first | assumption | exact cdiv_small (by omega) (by omega))
  | ((with_reducible apply rv_mod); first | assumption | omega)
  | ((with_reducible apply rv_mul); first | assumption | exact cmul_left (by omega) | exact cmul_right (by omega))
  | ((with_reducible apply rv_mulW); assumption)
  | (with_reducible exact rv_p8) | (with_reducible exact rv_p18) | (with_reducible exact rv_p40) | (with_reducible exact rv_p20) | (with_reducible exact rv_p6) | (with_reducible exact rv_p7) | (with_reducible exact rv_p12) | (with_reducible exact rv_p25) | (with_reducible exact rv_p30) | (with_reducible exact rv_p39) | (with_reducible exact rv_p60)
  | ((with_reducible apply rv_ixxL); first | assumption | exact at_getD (by omega) (by omega) | exact at_nat rfl)
  | ((with_reducible apply rv_ixxT); first | assumption | exact at_getD (by omega) (by omega) | exact at_nat rfl)
  | ((with_reducible apply rv_ixxC); first | assumption)
  | (with_reducible exact ru_neg))
local macro_rules | `(tactic| walk_at "isi") => `(tactic| first | (with_reducible exact isi_non_int) | (with_reducible exact isi_non_bool) | (with_reducible exact isi_non_str) | (with_reducible exact isi_non_tuple) | (with_reducible exact isi_non_list) | (with_reducible exact isi_bl_int) | (with_reducible exact isi_bl_bool) | (with_reducible exact isi_bl_str) | (with_reducible exact isi_bl_tuple) | (with_reducible exact isi_bl_list) | (with_reducible exact isi_int_int) | (with_reducible exact isi_int_bool) | (with_reducible exact isi_int_str) | (with_reducible exact isi_int_tuple) | (with_reducible exact isi_int_list) | (with_reducible exact isi_str_int) | (with_reducible exact isi_str_bool) | (with_reducible exact isi_str_str) | (with_reducible exact isi_str_tuple) | (with_reducible exact isi_str_list) | (with_reducible exact isi_tup_int) | (with_reducible exact isi_tup_bool) | (with_reducible exact isi_tup_str) | (with_reducible exact isi_tup_tuple) | (with_reducible exact isi_tup_list) | (with_reducible exact isi_lst_int) | (with_reducible exact isi_lst_bool) | (with_reducible exact isi_lst_str) | (with_reducible exact isi_lst_tuple) | (with_reducible exact isi_lst_list))
local macro_rules | `(tactic| walk_at "rc") => `(tactic| first
  | walk_at "isi"
  | (with_reducible exact rc_len) | (with_reducible exact rc_lent) | (with_reducible exact rc_lenc) | (with_reducible exact rc_toint) | (with_reducible exact rc_absv) | (with_reducible exact rc_gcd)
  | ((with_reducible apply rc_lcm); assumption)
  | ((with_reducible apply rc_isi); (focus rfl); assumption)
  | (with_reducible exact rco_list) | (with_reducible exact rco_listT))
local macro_rules | `(tactic| walk_at "ev") => `(tactic| first
  | (with_reducible exact ev_int) | (with_reducible exact ev_bl) | (with_reducible exact ev_non) | (with_reducible exact ev_str) | (with_reducible exact ev_ty)
  | ((with_reducible apply ev_var); rfl)
  | ((with_reducible apply ev_lenOw); rfl)
  | ((with_reducible apply ev_op) <;> first | walk_at "ev" | walk_at "rv")
  | ((with_reducible apply ev_un) <;> first | walk_at "ev" | walk_at "rv")
  | ((with_reducible apply ev_cb) <;> first | walk_at "ev" | walk_at "rc")
  | ((with_reducible apply ev_call) <;> first | walk_at "ev" | walk_at "pr")
  | ((with_reducible apply ev_tup) <;> first | walk_at "ev" | (simp; done))
  | (with_reducible exact ea_nil)
  | ((with_reducible apply ea_cons) <;> walk_at "ev")
  | ((with_reducible apply et_test); walk_at "ev")
  | ((with_reducible apply et_B); walk_at "ev")
  | ((with_reducible apply et_not); walk_at "ev")
  | ((with_reducible apply et_or); (walk_at "ev"); intro _; walk_at "ev")
  | ((with_reducible apply et_and); (walk_at "ev"); intro _; walk_at "ev")
  | ((with_reducible apply ev_orV); (walk_at "ev"); intro _; walk_at "ev")
  | ((with_reducible apply ev_andV); (walk_at "ev"); intro _; walk_at "ev")
  | ((with_reducible apply ev_notV); walk_at "ev")
  | (with_reducible exact et_yes)
  | ((with_reducible apply evo_lst) <;> first | walk_at "ev" | (simp; done))
  | ((with_reducible apply ev_opO) <;> first | walk_at "ev" | ((with_reducible apply rvo_add); simp; omega))
  | ((with_reducible apply ev_cbO) <;> first | walk_at "ev" | walk_at "rc")
  | ((with_reducible apply ev_callO) <;> first | walk_at "ev" | walk_at "pr")
  | ((with_reducible apply ec_call) <;> first | walk_at "ev" | walk_at "pr")
  | ((with_reducible apply ec_tup) <;> first | walk_at "ev" | (simp; done))
  | ((with_reducible apply ec_lst) <;> first | walk_at "ev" | (simp; done))
  | (with_reducible exact eca_nil)
  | ((with_reducible apply eca_cons) <;> walk_at "ev")
  | ((with_reducible apply ec_sc); (walk_at "ev"); rfl)
  | ((with_reducible apply ec_ow); (walk_at "ev"); first | assumption | (intro d hd; simp at hd; done))
  | ((with_reducible apply ec_fz); walk_at "ev")
  | ((with_reducible apply ev_fz); walk_at "ev"))

local macro_rules | `(tactic| walk_at "im") => `(tactic| ((with_reducible apply wq_asg); walk_at "ev"; (try dsimp only [List.set, Int.reduceToNat])))
local macro_rules | `(tactic| walk_at "ow") => `(tactic| ((with_reducible apply wq_asgO); walk_at "ev"; (focus (first | decide | (simp; done))); (try dsimp only [List.set, Int.reduceToNat])))
local macro_rules | `(tactic| walk_at "cl") => `(tactic| ((with_reducible apply wq_asgC); walk_at "ev"; (focus (first | decide | (simp; done))); (try dsimp only [List.set, Int.reduceToNat])))
local macro_rules | `(tactic| walk_at "if") => `(tactic| ((first | (with_reducible apply wq_when) | (with_reducible apply wq_if) | (with_reducible apply ws_if)); walk_at "ev"; (try dsimp only [Int.reduceToNat])))
local macro_rules | `(tactic| walk_at "ret") => `(tactic| ((with_reducible apply ws_ret); walk_at "ev"))
local macro_rules | `(tactic| walk_at "go") => `(tactic| (try dsimp only [cxOf, L2.Cx.nox, L2.Cx.wish, L2.Cx.blk]))
local macro_rules | `(tactic| walk_at "ints") => `(tactic| (refine ev_fz (evo_lst ?_ (by decide)); repeat (first | exact ea_nil | refine ea_cons ev_int ?_)))
section
variable {P : Program} {w : World} {K : PySem.W.Frag} {mg : Str → Option Value} {base : Heap}
/-! ### _law_number -/
def szN : List Int := [4, 19, 9, 8, 2, 100000000, 100000000, 100000000, 100000000, 100000000, 100000000, 100000000, 100000000, 100000000, 100000000]
def tblN : List Int := [6, 10, 15, 30, 42, 70, 105, 210]
def numN (dr : List Int) : Int := if dr.getD 0 0 = 1 then dr.getD 1 0 - 9 else if dr.getD 0 0 = 2 then longN dr 5 5 else dr.getD 1 0 - 9
def numDn (dr : List Int) : Int := if dr.getD 0 0 = 1 then tblN.getD (dr.getD 3 0).toNat 0 else if dr.getD 0 0 = 2 then dr.getD 2 0 + 1 else if dr.getD 0 0 = 3 then longN dr 10 5 + 1 else dr.getD 2 0 + 1
def number (c : Int) : Num := mk (if (draws c szN).getD 4 0 = 1 then -(numN (draws c szN)) else numN (draws c szN)) (numDn (draws c szN))
theorem draws_at (c : Int) (i : Nat) (h : i < 15) : 0 ≤ (draws c szN).getD i 0 ∧ (draws c szN).getD i 0 < szN.getD i 0 := draws_bd c szN i (by decide) h
theorem szN_ok : ∀ s ∈ szN, 0 < s ∧ s < 2 ^ 200 := by decide
theorem tbl_at {i : Int} (h0 : 0 ≤ i) (h : i < 8) : 0 < tblN.getD i.toNat 0 ∧ tblN.getD i.toNat 0 ≤ 210 := by
  have : ∀ k : Nat, k < 8 → 0 < tblN.getD k 0 ∧ tblN.getD k 0 ≤ 210 := by decide
  exact this _ (by omega)
theorem long5 (c : Int) : 0 ≤ longN (draws c szN) 5 5 ∧ longN (draws c szN) 5 5 < 2 ^ 133 := by
  obtain ⟨a, b⟩ := longN_bd (dr := draws c szN) (j := 5) 5 fun i hi => by
    have h := draws_at c (5 + i) (by omega)
    have e : szN.getD (5 + i) 0 = 100000000 := by
      have : ∀ i : Nat, i < 5 → szN.getD (5 + i) 0 = 100000000 := by decide
      exact this i hi
    rw [e] at h
    exact h
  refine ⟨a, Int.lt_trans b (by decide)⟩
theorem long10 (c : Int) : 0 ≤ longN (draws c szN) 10 5 ∧ longN (draws c szN) 10 5 < 2 ^ 133 := by
  obtain ⟨a, b⟩ := longN_bd (dr := draws c szN) (j := 10) 5 fun i hi => by
    have h := draws_at c (10 + i) (by omega)
    have e : szN.getD (10 + i) 0 = 100000000 := by
      have : ∀ i : Nat, i < 5 → szN.getD (10 + i) 0 = 100000000 := by decide
      exact this i hi
    rw [e] at h
    exact h
  refine ⟨a, Int.lt_trans b (by decide)⟩
theorem numDn_ok (c : Int) : 0 < numDn (draws c szN) ∧ numDn (draws c szN) < 2 ^ 134 := by
  have h2 := draws_at c 2 (by decide)
  have h3 := draws_at c 3 (by decide)
  have l := long10 c
  have e2 : szN.getD 2 0 = 9 := rfl
  have e3 : szN.getD 3 0 = 8 := rfl
  rw [e2] at h2
  rw [e3] at h3
  have t := tbl_at h3.1 h3.2
  unfold numDn
  split
  · omega
  · split
    · omega
    · split <;> omega
theorem numN_ok (c : Int) : (numN (draws c szN)).natAbs < 2 ^ 134 := by
  have h1 := draws_at c 1 (by decide)
  have l := long5 c
  have e1 : szN.getD 1 0 = 19 := rfl
  rw [e1] at h1
  unfold numN
  split
  · omega
  · split <;> omega
theorem number_good (c : Int) : Good 140 (number c) := by
  obtain ⟨a, b⟩ := numDn_ok c
  have h := numN_ok c
  refine mk_good a ?_ (by omega)
  split <;> omega
def P_number : PrD := fun ds R _ => ∃ c : Int, ds = [.int c] ∧ R (.cl (numD (number c)))
theorem pr_number {c : Int} : P_number [.int c] (fun s => s = .cl (numD (number c))) (fun _ => False) := ⟨c, rfl, rfl⟩
abbrev s_law_number : Stmt := topS 10
theorem sc_law_number : FnScope ["cell", "drawn", "k", "n", "d"] ["cell"] (defScope s_law_number) := ⟨rfl, rfl, rfl, by decide +kernel, rfl, by decide +kernel, by decide +kernel⟩
theorem rep8 {ρ : Rho} {n : Nat} {vs : List Nat} {j : Nat} {ta : TA} (hj : j ∈ vs) (hv : ∀ i ∈ vs, isOw ρ[i]? = false) (h : SrcD K (iRng1 ta) ρ (rng 0 n)) (hn : n ≤ 1000) : EvO K (tLc (iRng1 ta) (gName j) tYes (tOp rPowA (tC (.int 10)) (tC (.int 8))) vs) ρ (List.replicate n (.int 100000000)) := by
  have := evo_map (te := tOp rPowA (tC (.int 10)) (tC (.int 8))) (g := gName j) (vs := vs) (xs := List.range n) (enc := fun k : Nat => D.int (0 + (k : Int))) (fun _ => .int 100000000) h hv (fun d hd => ⟨_, gd_name, by simpa using hj, ev_op ev_int ev_int rv_p8⟩) (by rw [List.length_range]; omega)
  have e : (List.range n).map (fun _ => D.int 100000000) = List.replicate n (.int 100000000) := by
    rw [List.map_const', List.length_range]
  rw [e] at this
  exact this
theorem ok_number (F : Df K mg "_law_number" s_law_number ["cell"]) (gm : Gm mg) (G_law_draws : FnG P w K mg base CX0 1 "_law_draws" ["cell", "sizes"] (spD K P_draws)) (G_law_ratio : FnG P w K mg base CX0 2 "_law_ratio" ["n", "d"] (spD K (P_ratio 1999)))
    (G_law_long : FnG P w K mg base CX0 1 "_law_long" ["drawn", "at"] (spD K P_long)) : FnG P w K mg base CX0 3 "_law_number" ["cell"] (spD K P_number) := by
  refine F.ok (k := 2) sc_law_number (fun ds R Z ⟨a, e, _⟩ => by rw [e] <;> rfl) (fun f cdv A outer s H E hr => ?_)
  refine ⟨_,
    (pss_cons (sv 1 sc_law_number.nd (pe_g G_law_draws hr.le pass0 (pa_cons (pv 0) (pa_cons (pe_op (kAdd K) (pe_lst (pa_cons pe_int (pa_cons pe_int (pa_cons pe_int (pa_cons pe_int (pa_cons pe_int pa_nil)))))) (pe_lc (own := [("k", 2)]) rfl sc_law_number.nd (pi_range1 (by rfl) gm.range (pa_cons pe_int pa_nil)) (blkOk_by (N := ["cell", "drawn", "k", "n", "d"]) (sc := defScope s_law_number) (by decide +kernel)) (fun _ _ _ _ _ => (gn 2 sc_law_number.nd)) (fun _ _ _ _ _ => pts_nil) (fun _ _ _ _ _ => (pe_op opPow pe_int pe_int)))) pa_nil))))
    (pss_cons (sv 3 sc_law_number.nd (pe_op opSub (ix K (pv 1) pe_int) pe_int))
    (pss_cons (sv 4 sc_law_number.nd (pe_op (kAdd K) (ix K (pv 1) pe_int) pe_int))
    (pss_cons (ps_if (pt_cmpR (kEq K hr.units) (ix K (pv 1) pe_int) pe_int (nomark _)) (pss_one (sv 4 sc_law_number.nd (ix K (pe_lst (pa_cons pe_int (pa_cons pe_int (pa_cons pe_int (pa_cons pe_int (pa_cons pe_int (pa_cons pe_int (pa_cons pe_int (pa_cons pe_int pa_nil))))))))) (ix K (pv 1) pe_int)))) (pss_one (ps_if (pt_cmpR (kEq K hr.units) (ix K (pv 1) pe_int) pe_int (nomark _)) (pss_one (sv 3 sc_law_number.nd (pe_g G_law_long hr.le pass0 (pa_cons (pv 1) (pa_cons pe_int pa_nil))))) (pss_one (ps_if (pt_cmpR (kEq K hr.units) (ix K (pv 1) pe_int) pe_int (nomark _)) (pss_one (sv 4 sc_law_number.nd (pe_op (kAdd K) (pe_g G_law_long hr.le pass0 (pa_cons (pv 1) (pa_cons pe_int pa_nil))) pe_int))) pss_nil)))))
    (pss_cons (ps_if (pt_cmpR (kEq K hr.units) (ix K (pv 1) pe_int) pe_int (nomark _)) (pss_one (sv 3 sc_law_number.nd (pe_un unNeg (pv 3)))) pss_nil)
    (pss_one (ps_ret (pe_g G_law_ratio hr.le pass0 (pa_cons (pv 3) (pa_cons (pv 4) pa_nil)))))))))), fun ds R Z p => ?_⟩
  obtain ⟨c, rfl, p⟩ := p
  refine ws_to (ρ' := [.im (.int c), .no, .no, .no, .no]) rfl ?_
  walk_at "go"
  have es : ([.int 4, .int 19, .int 9, .int 8, .int 2] ++ List.replicate 10 (.int 100000000) : List D) = szN.map .int := rfl
  refine wq_asg (ec_fz (ec_call (ea_cons (ev_var rfl) (ea_cons (ev_fz (ev_opO (ev_fz (by walk_at "ev")) (ev_fz (rep8 (by decide) (by walk_at "hv") (src_rng1 (n := 10) (by walk_at "ev") (by decide)) (by decide))) (rvo_add (by decide)))) ea_nil)) (by
    show P_draws [.int c, .lst ([.int 4, .int 19, .int 9, .int 8, .int 2] ++ List.replicate 10 (.int 100000000))] _ _
    rw [es]
    exact pr_draws szN_ok (by decide)))) ?_
  dsimp only [List.set]
  have hlen : (draws c szN).length = 15 := draws_len c szN
  have p : R (.cl (numD (mk (if (draws c szN).getD 4 0 = 1 then -(numN (draws c szN)) else numN (draws c szN)) (numDn (draws c szN))))) := p
  have hd := numDn_ok c
  have h3 := draws_at c 3 (by decide)
  generalize draws c szN = dr at *
  walk_at "im"
  walk_at "im"
  refine ws_cut [.im (.int c), .im (.lst (dr.map .int)), .no, .im (.int (numN dr)), .im (.int (numDn dr))] ?_ ?_
  · walk_at "if" <;> intro hb
    · have hb : dr.getD 0 0 = 1 := of_decide_eq_true hb
      have ht : atI [D.int 6, .int 10, .int 15, .int 30, .int 42, .int 70, .int 105, .int 210] (dr.getD 3 0) = some (.int (tblN.getD (dr.getD 3 0).toNat 0)) := at_getD (ns := tblN) h3.1 (by exact h3.2)
      refine ws_asg (d := .int (tblN.getD (dr.getD 3 0).toNat 0)) (by walk_at "ev") ?_
      show _ = _
      rw [numN, numDn, if_pos hb, if_pos hb]
      rfl
    · have hb : ¬ dr.getD 0 0 = 1 := of_decide_eq_false hb
      walk_at "if" <;> intro hb2
      · have hb2 : dr.getD 0 0 = 2 := of_decide_eq_true hb2
        refine ws_asg (ev_call (by walk_at "ev") (pr_long (by decide) (by rw [hlen]; decide))) ?_
        show _ = _
        rw [numN, numDn, if_neg hb, if_neg hb, if_pos hb2, if_pos hb2]
        rfl
      · have hb2 : ¬ dr.getD 0 0 = 2 := of_decide_eq_false hb2
        walk_at "if" <;> intro hb3
        · have hb3 : dr.getD 0 0 = 3 := of_decide_eq_true hb3
          refine ws_asg (ev_op (ev_call (by walk_at "ev") (pr_long (by decide) (by rw [hlen]; decide))) ev_int rv_add) ?_
          show _ = _
          rw [numN, numDn, if_neg hb, if_neg hb, if_neg hb2, if_neg hb2, if_pos hb3]
          rfl
        · have hb3 : ¬ dr.getD 0 0 = 3 := of_decide_eq_false hb3
          refine ws_next ?_
          show _ = _
          rw [numN, numDn, if_neg hb, if_neg hb, if_neg hb2, if_neg hb2, if_neg hb3]
  · refine ws_cut [.im (.int c), .im (.lst (dr.map .int)), .no, .im (.int (if dr.getD 4 0 = 1 then -(numN dr) else numN dr)), .im (.int (numDn dr))] ?_ ?_
    · walk_at "if" <;> intro hb
      · have hb : dr.getD 4 0 = 1 := of_decide_eq_true hb
        refine ws_asg (by walk_at "ev") ?_
        show _ = _
        rw [if_pos hb]
        rfl
      · have hb : ¬ dr.getD 4 0 = 1 := of_decide_eq_false hb
        refine ws_next ?_
        show _ = _
        rw [if_neg hb]
    · apply ws_retC
      · refine ec_call (by walk_at "ev") (pr_ratio hd.1 (Int.lt_trans hd.2 ?_))
        exact_mod_cast (Nat.pow_lt_pow_right (by decide) (by decide) : 2 ^ 134 < 2 ^ 1999)
      · exact p
end
end FS
set_option Elab.async false
set_option linter.all false
set_option maxRecDepth 100000
set_option maxHeartbeats 4000000
namespace FS
open PySem PySem.Spec PyProof.Rows L2

local macro_rules | `(tactic| walk_at "side") => `(tactic| first | assumption | omega | decide)
local macro_rules | `(tactic| walk_at "hv") => `(tactic| (intro i hi; simp at hi; first | (subst hi; rfl) | (rcases hi with rfl | rfl <;> rfl) | (rcases hi with rfl | rfl | rfl <;> rfl)))
local macro_rules | `(tactic| walk_at "pr") => `(tactic| fail "no promise")
local macro_rules | `(tactic| walk_at "rv") => `(tactic| first
  | (with_reducible exact rv_add) | (with_reducible exact rv_sub) | (with_reducible exact rv_lt) | (with_reducible exact rv_le) | (with_reducible exact rv_gt) | (with_reducible exact rv_ge) | (with_reducible exact rv_eq) | (with_reducible exact rv_ne)
  | (with_reducible exact rv_is) | (with_reducible exact rv_isnot)
  | ((with_reducible apply rv_div); first | assumption | exact cdiv_small (by omega) (by omega))
  | ((with_reducible apply rv_mod); first | assumption | omega)
  | ((with_reducible apply rv_mul); first | assumption | exact cmul_left (by omega) | exact cmul_right (by omega))
  | ((with_reducible apply rv_mulW); assumption)
  | (with_reducible exact rv_p8) | (with_reducible exact rv_p18) | (with_reducible exact rv_p40) | (with_reducible exact rv_p20) | (with_reducible exact rv_p6) | (with_reducible exact rv_p7) | (with_reducible exact rv_p12) | (with_reducible exact rv_p25) | (with_reducible exact rv_p30) | (with_reducible exact rv_p39) | (with_reducible exact rv_p60)
  | ((with_reducible apply rv_ixxL); first | assumption | exact at_getD (by omega) (by omega) | exact at_nat rfl)
  | ((with_reducible apply rv_ixxT); first | assumption | exact at_getD (by omega) (by omega) | exact at_nat rfl)
  | ((with_reducible apply rv_ixxC); first | assumption)
  | (with_reducible exact ru_neg))
local macro_rules | `(tactic| walk_at "isi") => `(tactic| first | (with_reducible exact isi_non_int) | (with_reducible exact isi_non_bool) | (with_reducible exact isi_non_str) | (with_reducible exact isi_non_tuple) | (with_reducible exact isi_non_list) | (with_reducible exact isi_bl_int) | (with_reducible exact isi_bl_bool) | (with_reducible exact isi_bl_str) | (with_reducible exact isi_bl_tuple) | (with_reducible exact isi_bl_list) | (with_reducible exact isi_int_int) | (with_reducible exact isi_int_bool) | (with_reducible exact isi_int_str) | (with_reducible exact isi_int_tuple) | (with_reducible exact isi_int_list) | (with_reducible exact isi_str_int) | (with_reducible exact isi_str_bool) | (with_reducible exact isi_str_str) | (with_reducible exact isi_str_tuple) | (with_reducible exact isi_str_list) | (with_reducible exact isi_tup_int) | (with_reducible exact isi_tup_bool) | (with_reducible exact isi_tup_str) | (with_reducible exact isi_tup_tuple) | (with_reducible exact isi_tup_list) | (with_reducible exact isi_lst_int) | (with_reducible exact isi_lst_bool) | (with_reducible exact isi_lst_str) | (with_reducible exact isi_lst_tuple) | (with_reducible exact isi_lst_list))
local macro_rules | `(tactic| walk_at "rc") => `(tactic| first
  | walk_at "isi"
  | (with_reducible exact rc_len) | (with_reducible exact rc_lent) | (with_reducible exact rc_lenc) | (with_reducible exact rc_toint) | (with_reducible exact rc_absv) | (with_reducible exact rc_gcd)
  | ((with_reducible apply rc_lcm); assumption)
  | ((with_reducible apply rc_isi); (focus rfl); assumption)
  | (with_reducible exact rco_list) | (with_reducible exact rco_listT))
local macro_rules | `(tactic| walk_at "ev") => `(tactic| first
  | (with_reducible exact ev_int) | (with_reducible exact ev_bl) | (with_reducible exact ev_non) | (with_reducible exact ev_str) | (with_reducible exact ev_ty)
  | ((with_reducible apply ev_var); rfl)
  | ((with_reducible apply ev_lenOw); rfl)
  | ((with_reducible apply ev_op) <;> first | walk_at "ev" | walk_at "rv")
  | ((with_reducible apply ev_un) <;> first | walk_at "ev" | walk_at "rv")
  | ((with_reducible apply ev_cb) <;> first | walk_at "ev" | walk_at "rc")
  | ((with_reducible apply ev_call) <;> first | walk_at "ev" | walk_at "pr")
  | ((with_reducible apply ev_tup) <;> first | walk_at "ev" | (simp; done))
  | (with_reducible exact ea_nil)
  | ((with_reducible apply ea_cons) <;> walk_at "ev")
  | ((with_reducible apply et_test); walk_at "ev")
  | ((with_reducible apply et_B); walk_at "ev")
  | ((with_reducible apply et_not); walk_at "ev")
  | ((with_reducible apply et_or); (walk_at "ev"); intro _; walk_at "ev")
  | ((with_reducible apply et_and); (walk_at "ev"); intro _; walk_at "ev")
  | ((with_reducible apply ev_orV); (walk_at "ev"); intro _; walk_at "ev")
  | ((with_reducible apply ev_andV); (walk_at "ev"); intro _; walk_at "ev")
  | ((with_reducible apply ev_notV); walk_at "ev")
  | (with_reducible exact et_yes)
  | ((with_reducible apply evo_lst) <;> first | walk_at "ev" | (simp; done))
  | ((with_reducible apply ev_opO) <;> first | walk_at "ev" | ((with_reducible apply rvo_add); simp; omega))
  | ((with_reducible apply ev_cbO) <;> first | walk_at "ev" | walk_at "rc")
  | ((with_reducible apply ev_callO) <;> first | walk_at "ev" | walk_at "pr")
  | ((with_reducible apply ec_call) <;> first | walk_at "ev" | walk_at "pr")
  | ((with_reducible apply ec_tup) <;> first | walk_at "ev" | (simp; done))
  | ((with_reducible apply ec_lst) <;> first | walk_at "ev" | (simp; done))
  | (with_reducible exact eca_nil)
  | ((with_reducible apply eca_cons) <;> walk_at "ev")
  | ((with_reducible apply ec_sc); (walk_at "ev"); rfl)
  | ((with_reducible apply ec_ow); (walk_at "ev"); first | assumption | (intro d hd; simp at hd; done))
  | ((with_reducible apply ec_fz); walk_at "ev")
  | ((with_reducible apply ev_fz); walk_at "ev"))

local macro_rules | `(tactic| walk_at "im") => `(tactic| ((with_reducible apply wq_asg); walk_at "ev"; (try dsimp only [List.set, Int.reduceToNat])))
local macro_rules | `(tactic| walk_at "ow") => `(tactic| ((with_reducible apply wq_asgO); walk_at "ev"; (focus (first | decide | (simp; done))); (try dsimp only [List.set, Int.reduceToNat])))
local macro_rules | `(tactic| walk_at "cl") => `(tactic| ((with_reducible apply wq_asgC); walk_at "ev"; (focus (first | decide | (simp; done))); (try dsimp only [List.set, Int.reduceToNat])))
local macro_rules | `(tactic| walk_at "if") => `(tactic| ((first | (with_reducible apply wq_when) | (with_reducible apply wq_if) | (with_reducible apply ws_if)); walk_at "ev"; (try dsimp only [Int.reduceToNat])))
local macro_rules | `(tactic| walk_at "ret") => `(tactic| ((with_reducible apply ws_ret); walk_at "ev"))
local macro_rules | `(tactic| walk_at "go") => `(tactic| (try dsimp only [cxOf, L2.Cx.nox, L2.Cx.wish, L2.Cx.blk]))
local macro_rules | `(tactic| walk_at "ints") => `(tactic| (refine ev_fz (evo_lst ?_ (by decide)); repeat (first | exact ea_nil | refine ea_cons ev_int ?_)))
section
variable {P : Program} {w : World} {K : PySem.W.Frag} {mg : Str → Option Value} {base : Heap}
/-! ### _law_numbers -/
def szS : List Int := [9, 6, 61, 4, 3]
def rep5 : List Int := [100000000, 100000000, 100000000, 100000000, 100000000]
def baseN (ns : List Int) : Int := [12, 2520, longN (draws (cell ns 1) rep5) 0 5 + 1].getD ((draws (cell ns 0) szS).getD 4 0).toNat 0
def manyN (ns : List Int) : Int := if (draws (cell ns 0) szS).getD 1 0 = 0 then (draws (cell ns 0) szS).getD 2 0 else (draws (cell ns 0) szS).getD 0 0
def firstN (ns : List Int) : List Num := (List.range (manyN ns).toNat).map fun (k : Nat) => number (cell ns (2 + (0 + (k : Int))))
def numbersN (ns : List Int) : List Num := if (draws (cell ns 0) szS).getD 3 0 = 0 then (firstN ns).map fun x => mk x.1 (baseN ns) else firstN ns
theorem shape_at (c : Int) (i : Nat) (h : i < 5) : 0 ≤ (draws c szS).getD i 0 ∧ (draws c szS).getD i 0 < szS.getD i 0 := draws_bd c szS i (by decide) h
theorem manyN_ok (ns : List Int) : 0 ≤ manyN ns ∧ manyN ns ≤ 60 := by
  have h0 := shape_at (cell ns 0) 0 (by decide)
  have h2 := shape_at (cell ns 0) 2 (by decide)
  have e0 : szS.getD 0 0 = 9 := rfl
  have e2 : szS.getD 2 0 = 61 := rfl
  rw [e0] at h0
  rw [e2] at h2
  unfold manyN
  split <;> omega
theorem longB (c : Int) : 0 ≤ longN (draws c rep5) 0 5 ∧ longN (draws c rep5) 0 5 < 2 ^ 133 := by
  obtain ⟨a, b⟩ := longN_bd (dr := draws c rep5) (j := 0) 5 fun i hi => by
    have h := draws_bd c rep5 (0 + i) (by decide) (by show 0 + i < 5; omega)
    have e : rep5.getD (0 + i) 0 = 100000000 := by
      have : ∀ i : Nat, i < 5 → rep5.getD (0 + i) 0 = 100000000 := by decide
      exact this i hi
    rw [e] at h
    exact h
  exact ⟨a, Int.lt_trans b (by decide)⟩
theorem baseN_ok (ns : List Int) : 0 < baseN ns ∧ baseN ns < 2 ^ 134 := by
  have h4 := shape_at (cell ns 0) 4 (by decide)
  have e4 : szS.getD 4 0 = 3 := rfl
  rw [e4] at h4
  have l := longB (cell ns 1)
  unfold baseN
  generalize ((draws (cell ns 0) szS).getD 4 0) = z at *
  have hz : z = 0 ∨ z = 1 ∨ z = 2 := by omega
  rcases hz with rfl | rfl | rfl
  · show 0 < (12 : Int) ∧ (12 : Int) < 2 ^ 134
    decide
  · show 0 < (2520 : Int) ∧ (2520 : Int) < 2 ^ 134
    decide
  · show 0 < longN (draws (cell ns 1) rep5) 0 5 + 1 ∧ longN (draws (cell ns 1) rep5) 0 5 + 1 < 2 ^ 134
    omega
theorem numbersN_ok (ns : List Int) : (numbersN ns).length ≤ 60 ∧ ∀ x ∈ numbersN ns, Good 140 x := by
  have hm := manyN_ok ns
  have hf : (firstN ns).length ≤ 60 ∧ ∀ x ∈ firstN ns, Good 140 x := by
    refine ⟨by rw [firstN, List.length_map, List.length_range]; omega, fun x hx => ?_⟩
    obtain ⟨k, _, rfl⟩ := List.mem_map.mp hx
    exact number_good _
  unfold numbersN
  split
  · refine ⟨by rw [List.length_map]; exact hf.1, fun x hx => ?_⟩
    obtain ⟨y, hy, rfl⟩ := List.mem_map.mp hx
    have hb := baseN_ok ns
    exact mk_good hb.1 (hf.2 y hy).up (Int.lt_trans hb.2 (by decide))
  · exact hf
def P_numbers : PrD := fun ds R _ => ∃ ns, ds = [.scr ns] ∧ R (.im (.lst ((numbersN ns).map numD)))
theorem pr_numbers {ns : List Int} : P_numbers [.scr ns] (fun s => s = .im (.lst ((numbersN ns).map numD))) (fun _ => False) := ⟨ns, rfl, rfl⟩
theorem p134 : (2 : Int) ^ 134 < 2 ^ 1999 := by exact_mod_cast (Nat.pow_lt_pow_right (by decide) (by decide) : 2 ^ 134 < 2 ^ 1999)
abbrev s_law_numbers : Stmt := topS 11
abbrev N_law_numbers : List Str := ["script", "shape", "many", "numbers", "k", "drawn", "base", "number"]
theorem sc_law_numbers : FnScope ["script", "shape", "many", "numbers", "k", "drawn", "base", "number"] ["script"] (defScope s_law_numbers) := ⟨rfl, rfl, rfl, by decide +kernel, rfl, by decide +kernel, by decide +kernel⟩
theorem ok_numbers (F : Df K mg "_law_numbers" s_law_numbers ["script"]) (gm : Gm mg) (G_law_cell : FnG P w K mg base CX0 1 "_law_cell" ["script", "k"] (spD K P_cell)) (G_law_draws : FnG P w K mg base CX0 1 "_law_draws" ["cell", "sizes"] (spD K P_draws)) (G_law_ratio : FnG P w K mg base CX0 2 "_law_ratio" ["n", "d"] (spD K (P_ratio 1999)))
    (G_law_long : FnG P w K mg base CX0 1 "_law_long" ["drawn", "at"] (spD K P_long)) (G_law_number : FnG P w K mg base CX0 3 "_law_number" ["cell"] (spD K P_number)) : FnG P w K mg base CX0 4 "_law_numbers" ["script"] (spD K P_numbers) := by
  refine F.ok (k := 3) sc_law_numbers (fun ds R Z ⟨a, e, _⟩ => by rw [e] <;> rfl) (fun f cdv A outer s H E hr => ?_)
  refine ⟨_,
    (pss_cons (sv 1 sc_law_numbers.nd (pe_g G_law_draws hr.le pass0 (pa_cons (pe_g G_law_cell hr.le pass0 (pa_cons (pv 0) (pa_cons pe_int pa_nil))) (pa_cons (pe_lst (pa_cons pe_int (pa_cons pe_int (pa_cons pe_int (pa_cons pe_int (pa_cons pe_int pa_nil)))))) pa_nil))))
    (pss_cons (sv 2 sc_law_numbers.nd (ix K (pv 1) pe_int))
    (pss_cons (ps_if (pt_cmpR (kEq K hr.units) (ix K (pv 1) pe_int) pe_int (nomark _)) (pss_one (sv 2 sc_law_numbers.nd (ix K (pv 1) pe_int))) pss_nil)
    (pss_cons (ps_setLc (i := 3) (own := [("k", 4)]) rfl sc_law_numbers.nd rfl rfl (sw_true rfl rfl rfl (by decide +kernel)) (pi_range1 (by rfl) gm.range (pa_cons (pv 2) pa_nil)) (blkOk_by (N := N_law_numbers) (sc := defScope s_law_numbers) (by decide +kernel)) (fun _ _ _ _ _ => (gn 4 sc_law_numbers.nd)) (fun _ _ _ _ _ => pts_nil) (fun _ _ _ _ _ => (pe_g G_law_number hr.le pass0 (pa_cons (pe_g G_law_cell hr.le pass0 (pa_cons (pv 0) (pa_cons (pe_op (kAdd K) pe_int (pv 4)) pa_nil))) pa_nil))))
    (pss_cons (ps_if (pt_cmpR (kEq K hr.units) (ix K (pv 1) pe_int) pe_int (nomark _)) (pss_cons (sv 5 sc_law_numbers.nd (pe_g G_law_draws hr.le pass0 (pa_cons (pe_g G_law_cell hr.le pass0 (pa_cons (pv 0) (pa_cons pe_int pa_nil))) (pa_cons (pe_lc (own := [("k", 4)]) rfl sc_law_numbers.nd (pi_range1 (by rfl) gm.range (pa_cons pe_int pa_nil)) (blkOk_by (N := N_law_numbers) (sc := defScope s_law_numbers) (by decide +kernel)) (fun _ _ _ _ _ => (gn 4 sc_law_numbers.nd)) (fun _ _ _ _ _ => pts_nil) (fun _ _ _ _ _ => (pe_op opPow pe_int pe_int))) pa_nil)))) (pss_cons (sv 6 sc_law_numbers.nd (ix K (pe_lst (pa_cons pe_int (pa_cons pe_int (pa_cons (pe_op (kAdd K) (pe_g G_law_long hr.le pass0 (pa_cons (pv 5) (pa_cons pe_int pa_nil))) pe_int) pa_nil)))) (ix K (pv 1) pe_int))) (pss_one (ps_setLc (i := 3) (own := [("number", 7)]) rfl sc_law_numbers.nd rfl rfl (sw_true rfl rfl rfl (by decide +kernel)) (pl K (pv 3)) (blkOk_by (N := N_law_numbers) (sc := defScope s_law_numbers) (by decide +kernel)) (fun _ _ _ _ _ => (gn 7 sc_law_numbers.nd)) (fun _ _ _ _ _ => pts_nil) (fun _ _ _ _ _ => by exact (pe_g G_law_ratio hr.le pass0 (pa_cons (ix K (pv 7) pe_int) (pa_cons (pv 6) pa_nil)))))))) pss_nil)
    (pss_one (ps_ret (pv 3)))))))), fun ds R Z p => ?_⟩
  obtain ⟨ns, rfl, p⟩ := p
  refine ws_to (ρ' := [.im (.scr ns), .no, .no, .no, .no, .no, .no, .no]) rfl ?_
  walk_at "go"
  refine wq_asg (ec_fz (ec_call (ea_cons (ev_call (by walk_at "ev") (pr_cell (by decide))) (ea_cons (by walk_at "ints") ea_nil)) (pr_draws (sizes := szS) (by decide) (by decide)))) ?_
  dsimp only [List.set]
  have hlen : (draws (cell ns 0) szS).length = 5 := draws_len _ _
  have h4 := shape_at (cell ns 0) 4 (by decide)
  have hm := manyN_ok ns
  have hb := baseN_ok ns
  have hb2 : baseN ns < 2 ^ 1999 := Int.lt_trans hb.2 p134
  walk_at "im"
  refine ws_cut [.im (.scr ns), .im (.lst ((draws (cell ns 0) szS).map .int)), .im (.int (manyN ns)), .no, .no, .no, .no, .no] ?_ ?_
  · walk_at "if" <;> intro hb
    · have hb : (draws (cell ns 0) szS).getD 1 0 = 0 := of_decide_eq_true hb
      refine ws_asg (by walk_at "ev") ?_
      show _ = _
      rw [manyN, if_pos hb]
      rfl
    · have hb : ¬ (draws (cell ns 0) szS).getD 1 0 = 0 := of_decide_eq_false hb
      refine ws_next ?_
      show _ = _
      rw [manyN, if_neg hb]
  · refine wq_asg (ec_fz (ec_map (xs := List.range (manyN ns).toNat) (enc := fun k : Nat => D.int (0 + (k : Int))) (fun k => numD (number (cell ns (2 + (0 + (k : Int)))))) (src_rng1 (by walk_at "ev") (by omega)) (by walk_at "hv") (fun k hk => ⟨_, gd_name, by simp, ?_⟩) (by rw [List.length_range]; omega))) ?_
    · dsimp only [setD, wipeD, List.set, List.map]
      exact ec_call (ea_cons (ev_call (ea_cons (ev_var rfl) (ea_cons (ev_op ev_int (ev_var rfl) rv_add) ea_nil)) (pr_cell (by omega))) ea_nil) pr_number
    · dsimp only [List.set]
      have ef : (List.range (manyN ns).toNat).map (fun k : Nat => numD (number (cell ns (2 + (0 + (k : Int)))))) = (firstN ns).map numD := by
        rw [firstN, List.map_map]
        rfl
      rw [ef]
      have hf : (firstN ns).length ≤ 60 := by rw [firstN, List.length_map, List.length_range]; omega
      walk_at "if" <;> intro hc
      · have hc : (draws (cell ns 0) szS).getD 3 0 = 0 := of_decide_eq_true hc
        refine wq_asg (ec_fz (ec_call (ea_cons (ev_call (by walk_at "ev") (pr_cell (by decide))) (ea_cons (ev_fz (rep8 (by decide) (by walk_at "hv") (src_rng1 (n := 5) (by walk_at "ev") (by decide)) (by decide))) ea_nil)) (pr_draws (sizes := rep5) (by decide) (by decide)))) ?_
        dsimp only [List.set]
        have hl5 : (draws (cell ns 1) rep5).length = 5 := draws_len _ _
        have ht : atI [D.int 12, .int 2520, .int (longN (draws (cell ns 1) rep5) (0 : Int).toNat 5 + 1)] ((draws (cell ns 0) szS).getD 4 0) = some (.int (baseN ns)) := at_getD (ns := [12, 2520, longN (draws (cell ns 1) rep5) 0 5 + 1]) h4.1 (by exact h4.2)
        refine wq_asg (ev_op (ev_fz (evo_lst (ea_cons ev_int (ea_cons ev_int (ea_cons (ev_op (ev_call (by walk_at "ev") (pr_long (by decide) (by rw [hl5]; decide))) ev_int rv_add) ea_nil))) (by simp))) (by walk_at "ev") (rv_ixxL ht)) ?_
        dsimp only [List.set]
        refine ws_asg (ec_fz (ec_map (xs := firstN ns) (enc := numD) (fun x => numD (mk x.1 (baseN ns))) (src_list (ev_var rfl)) (by walk_at "hv") (fun x hx => ⟨_, gd_name, by simp, ?_⟩) (by omega))) ?_
        · dsimp only [setD, wipeD, List.set, List.map]
          exact ec_call (ea_cons (ev_op (ev_var rfl) ev_int (rv_ixxT (at_nat (j := 0) rfl))) (ea_cons (ev_var rfl) ea_nil)) (pr_ratio hb.1 hb2)
        · dsimp only [List.set]
          refine ws_ret (ev_var rfl) ?_
          show R _
          rw [numbersN, if_pos hc] at p
          rw [List.map_map] at p
          exact p
      · have hc : ¬ (draws (cell ns 0) szS).getD 3 0 = 0 := of_decide_eq_false hc
        refine ws_ret (ev_var rfl) ?_
        show R _
        rw [numbersN, if_neg hc] at p
        exact p
end
end FS
set_option Elab.async false
set_option linter.all false
set_option maxRecDepth 100000
set_option maxHeartbeats 4000000
namespace FS
open PySem PySem.Spec PyProof.Rows L2

local macro_rules | `(tactic| walk_at "side") => `(tactic| first | assumption | omega | decide)
local macro_rules | `(tactic| walk_at "hv") => `(tactic| (intro i hi; simp at hi; first | (subst hi; rfl) | (rcases hi with rfl | rfl <;> rfl) | (rcases hi with rfl | rfl | rfl <;> rfl)))
local macro_rules | `(tactic| walk_at "pr") => `(tactic| fail "no promise")
local macro_rules | `(tactic| walk_at "rv") => `(tactic| first
  | (with_reducible exact rv_add) | (with_reducible exact rv_sub) | (with_reducible exact rv_lt) | (with_reducible exact rv_le) | (with_reducible exact rv_gt) | (with_reducible exact rv_ge) | (with_reducible exact rv_eq) | (with_reducible exact rv_ne)
  | (with_reducible exact rv_is) | (with_reducible exact rv_isnot)
  | ((with_reducible apply rv_div); first | assumption | exact cdiv_small (by omega) (by omega))
  | ((with_reducible apply rv_mod); first | assumption | omega)
  | ((with_reducible apply rv_mul); first | assumption | exact cmul_left (by omega) | exact cmul_right (by omega))
  | ((with_reducible apply rv_mulW); assumption)
  | (with_reducible exact rv_p8) | (with_reducible exact rv_p18) | (with_reducible exact rv_p40) | (with_reducible exact rv_p20) | (with_reducible exact rv_p6) | (with_reducible exact rv_p7) | (with_reducible exact rv_p12) | (with_reducible exact rv_p25) | (with_reducible exact rv_p30) | (with_reducible exact rv_p39) | (with_reducible exact rv_p60)
  | ((with_reducible apply rv_ixxL); first | assumption | exact at_getD (by omega) (by omega) | exact at_nat rfl)
  | ((with_reducible apply rv_ixxT); first | assumption | exact at_getD (by omega) (by omega) | exact at_nat rfl)
  | ((with_reducible apply rv_ixxC); first | assumption)
  | (with_reducible exact ru_neg))
local macro_rules | `(tactic| walk_at "isi") => `(tactic| first | (with_reducible exact isi_non_int) | (with_reducible exact isi_non_bool) | (with_reducible exact isi_non_str) | (with_reducible exact isi_non_tuple) | (with_reducible exact isi_non_list) | (with_reducible exact isi_bl_int) | (with_reducible exact isi_bl_bool) | (with_reducible exact isi_bl_str) | (with_reducible exact isi_bl_tuple) | (with_reducible exact isi_bl_list) | (with_reducible exact isi_int_int) | (with_reducible exact isi_int_bool) | (with_reducible exact isi_int_str) | (with_reducible exact isi_int_tuple) | (with_reducible exact isi_int_list) | (with_reducible exact isi_str_int) | (with_reducible exact isi_str_bool) | (with_reducible exact isi_str_str) | (with_reducible exact isi_str_tuple) | (with_reducible exact isi_str_list) | (with_reducible exact isi_tup_int) | (with_reducible exact isi_tup_bool) | (with_reducible exact isi_tup_str) | (with_reducible exact isi_tup_tuple) | (with_reducible exact isi_tup_list) | (with_reducible exact isi_lst_int) | (with_reducible exact isi_lst_bool) | (with_reducible exact isi_lst_str) | (with_reducible exact isi_lst_tuple) | (with_reducible exact isi_lst_list))
local macro_rules | `(tactic| walk_at "rc") => `(tactic| first
  | walk_at "isi"
  | (with_reducible exact rc_len) | (with_reducible exact rc_lent) | (with_reducible exact rc_lenc) | (with_reducible exact rc_toint) | (with_reducible exact rc_absv) | (with_reducible exact rc_gcd)
  | ((with_reducible apply rc_lcm); assumption)
  | ((with_reducible apply rc_isi); (focus rfl); assumption)
  | (with_reducible exact rco_list) | (with_reducible exact rco_listT))
local macro_rules | `(tactic| walk_at "ev") => `(tactic| first
  | (with_reducible exact ev_int) | (with_reducible exact ev_bl) | (with_reducible exact ev_non) | (with_reducible exact ev_str) | (with_reducible exact ev_ty)
  | ((with_reducible apply ev_var); rfl)
  | ((with_reducible apply ev_lenOw); rfl)
  | ((with_reducible apply ev_op) <;> first | walk_at "ev" | walk_at "rv")
  | ((with_reducible apply ev_un) <;> first | walk_at "ev" | walk_at "rv")
  | ((with_reducible apply ev_cb) <;> first | walk_at "ev" | walk_at "rc")
  | ((with_reducible apply ev_call) <;> first | walk_at "ev" | walk_at "pr")
  | ((with_reducible apply ev_tup) <;> first | walk_at "ev" | (simp; done))
  | (with_reducible exact ea_nil)
  | ((with_reducible apply ea_cons) <;> walk_at "ev")
  | ((with_reducible apply et_test); walk_at "ev")
  | ((with_reducible apply et_B); walk_at "ev")
  | ((with_reducible apply et_not); walk_at "ev")
  | ((with_reducible apply et_or); (walk_at "ev"); intro _; walk_at "ev")
  | ((with_reducible apply et_and); (walk_at "ev"); intro _; walk_at "ev")
  | ((with_reducible apply ev_orV); (walk_at "ev"); intro _; walk_at "ev")
  | ((with_reducible apply ev_andV); (walk_at "ev"); intro _; walk_at "ev")
  | ((with_reducible apply ev_notV); walk_at "ev")
  | (with_reducible exact et_yes)
  | ((with_reducible apply evo_lst) <;> first | walk_at "ev" | (simp; done))
  | ((with_reducible apply ev_opO) <;> first | walk_at "ev" | ((with_reducible apply rvo_add); simp; omega))
  | ((with_reducible apply ev_cbO) <;> first | walk_at "ev" | walk_at "rc")
  | ((with_reducible apply ev_callO) <;> first | walk_at "ev" | walk_at "pr")
  | ((with_reducible apply ec_call) <;> first | walk_at "ev" | walk_at "pr")
  | ((with_reducible apply ec_tup) <;> first | walk_at "ev" | (simp; done))
  | ((with_reducible apply ec_lst) <;> first | walk_at "ev" | (simp; done))
  | (with_reducible exact eca_nil)
  | ((with_reducible apply eca_cons) <;> walk_at "ev")
  | ((with_reducible apply ec_sc); (walk_at "ev"); rfl)
  | ((with_reducible apply ec_ow); (walk_at "ev"); first | assumption | (intro d hd; simp at hd; done))
  | ((with_reducible apply ec_fz); walk_at "ev")
  | ((with_reducible apply ev_fz); walk_at "ev"))

local macro_rules | `(tactic| walk_at "im") => `(tactic| ((with_reducible apply wq_asg); walk_at "ev"; (try dsimp only [List.set, Int.reduceToNat])))
local macro_rules | `(tactic| walk_at "ow") => `(tactic| ((with_reducible apply wq_asgO); walk_at "ev"; (focus (first | decide | (simp; done))); (try dsimp only [List.set, Int.reduceToNat])))
local macro_rules | `(tactic| walk_at "cl") => `(tactic| ((with_reducible apply wq_asgC); walk_at "ev"; (focus (first | decide | (simp; done))); (try dsimp only [List.set, Int.reduceToNat])))
local macro_rules | `(tactic| walk_at "if") => `(tactic| ((first | (with_reducible apply wq_when) | (with_reducible apply wq_if) | (with_reducible apply ws_if)); walk_at "ev"; (try dsimp only [Int.reduceToNat])))
local macro_rules | `(tactic| walk_at "ret") => `(tactic| ((with_reducible apply ws_ret); walk_at "ev"))
local macro_rules | `(tactic| walk_at "go") => `(tactic| (try dsimp only [cxOf, L2.Cx.nox, L2.Cx.wish, L2.Cx.blk]))
local macro_rules | `(tactic| walk_at "ints") => `(tactic| (refine ev_fz (evo_lst ?_ (by decide)); repeat (first | exact ea_nil | refine ea_cons ev_int ?_)))
section
variable {P : Program} {w : World} {K : PySem.W.Frag} {mg : Str → Option Value} {base : Heap}
/-! ### _law_same, of equal data -/
def P_same (n : Nat) : PrD := fun ds R _ => ∃ y, ds = [y, y] ∧ D.pl n y = true ∧ R (.im (.bl true))
def P_same' : Nat → PrD
  | 0 => fun _ _ _ => False
  | n + 1 => P_same n
theorem pr_same {n : Nat} {y : D} (h : D.pl n y = true) : P_same n [y, y] (fun s => s = .im (.bl true)) (fun _ => False) := ⟨y, rfl, h, rfl⟩
abbrev s_law_same : Stmt := topS 7
theorem sc_law_same : FnScope ["actual", "due", "k"] ["actual", "due"] (defScope s_law_same) := ⟨rfl, rfl, rfl, by decide +kernel, rfl, by decide +kernel, by decide +kernel⟩
theorem ok_same1 (n : Nat) (F : Df K mg "_law_same" s_law_same ["actual", "due"]) (gm : Gm mg) (G_law_same : FnG P w K mg base CX0 n "_law_same" ["actual", "due"] (spD K (P_same' n))) : FnG P w K mg base CX0 (n + 1) "_law_same" ["actual", "due"] (spD K (P_same' (n + 1))) := by
  refine F.ok (k := n) sc_law_same (fun ds R Z ⟨a, e, _⟩ => by rw [e] <;> rfl) (fun f cdv A outer s H E hr => ?_)
  refine ⟨_,
    (pss_cons (ps_if (pt_cmpR opIsN (pv 1) pe_non (nomark _)) (pss_one (ps_ret (pe_cmpR opIsN (pv 0) pe_non (nomark _)))) pss_nil)
    (pss_cons (ps_if (pt_val (cb (kIsi K) gm.isinstance (pa_cons (pv 1) (pa_cons (pe_bltn (v := .ty "int") (by rfl) gm.int (by decide +kernel) rfl) pa_nil)))) (pss_one (ps_ret (pe_and (cb (kIsi K) gm.isinstance (pa_cons (pv 0) (pa_cons (pe_bltn (v := .ty "int") (by rfl) gm.int (by decide +kernel) rfl) pa_nil))) (pe_and (pe_not (cb (kIsi K) gm.isinstance (pa_cons (pv 0) (pa_cons (pe_bltn (v := .ty "bool") (by rfl) gm.bool (by decide +kernel) rfl) pa_nil)))) (pe_one (pe_cmpR (kEq K hr.units) (pv 0) (pv 1) (nomark _))))))) pss_nil)
    (pss_cons (ps_if (pt_val (cb (kIsi K) gm.isinstance (pa_cons (pv 1) (pa_cons (pe_bltn (v := .ty "tuple") (by rfl) gm.tuple (by decide +kernel) rfl) pa_nil)))) (pss_one (ps_if (PW.pt (pw_or (pt_not (pt_val (cb (kIsi K) gm.isinstance (pa_cons (pv 0) (pa_cons (pe_bltn (v := .ty "tuple") (by rfl) gm.tuple (by decide +kernel) rfl) pa_nil))))) (pw_or1 (pt_cmpR (kNe K hr.units) (cb (kLen K) gm.len (pa_cons (pv 0) pa_nil)) (cb (kLen K) gm.len (pa_cons (pv 1) pa_nil)) (nomark _))))) (pss_one (ps_ret pe_bl)) pss_nil)) (pss_one (ps_if (PW.pt (pw_or (pt_not (pt_val (cb (kIsi K) gm.isinstance (pa_cons (pv 0) (pa_cons (pe_bltn (v := .ty "list") (by rfl) gm.list (by decide +kernel) rfl) pa_nil))))) (pw_or1 (pt_cmpR (kNe K hr.units) (cb (kLen K) gm.len (pa_cons (pv 0) pa_nil)) (cb (kLen K) gm.len (pa_cons (pv 1) pa_nil)) (nomark _))))) (pss_one (ps_ret pe_bl)) pss_nil)))
    (pss_cons (ps_for PassesOwn.never rfl (pi_range1 (by rfl) gm.range (pa_cons (cb (kLen K) gm.len (pa_cons (pv 1) pa_nil)) pa_nil)) (gn 2 sc_law_same.nd) (pss_one (ps_if (pt_not (pt_val (pe_g G_law_same hr pass0 (pa_cons (ix K (pv 0) (pv 2)) (pa_cons (ix K (pv 1) (pv 2)) pa_nil))))) (pss_one (ps_ret pe_bl)) pss_nil)))
    (pss_one (ps_ret pe_bl)))))), fun ds R Z p => ?_⟩
  obtain ⟨y, rfl, hy, p⟩ := p
  refine ws_to (ρ' := [.im y, .im y, .no]) rfl ?_
  walk_at "go"
  cases y with
  | non =>
    refine wq_ifT (by walk_at "ev") (by rfl) ?_
    walk_at "ret"
    exact p
  | int i =>
    refine wq_noif (by walk_at "ev") (by rfl) ?_
    refine wq_ifT (by walk_at "ev") (by rfl) ?_
    refine ws_ret (d := .bl true) ((by walk_at "ev" : EvD K _ _ (.bl (true && (!false && decide (i = i))))).is (by simp)) ?_
    exact p
  | tup l =>
    refine wq_noif (by walk_at "ev") (by rfl) ?_
    refine wq_noif (by walk_at "ev") (by rfl) ?_
    cases n with
    | zero => exact absurd hy (by simp [D.pl])
    | succ n =>
    have hy : D.plL n l = true ∧ l.length ≤ 100000 := by simpa [D.pl] using hy
    refine wq_ifT (by walk_at "ev") (by rfl) ?_
    refine ws_ifF (by walk_at "ev") (by simp) ?_
    refine ws_next ?_
    refine wq_for (src_rng1 (n := (l.length : Int)) (by walk_at "ev") (by omega)) (fun i ρ' => ∃ s2, ρ' = [.im (.tup l), .im (.tup l), s2]) ⟨.no, rfl⟩ ?_ ?_
    · rintro i d ρ' hd ⟨s2, rfl⟩
      obtain ⟨hi, rfl⟩ := rng_get hd
      refine ⟨_, gd_name, ?_⟩
      dsimp only [setD, List.set]
      have hi : i < l.length := by omega
      have e0 : (0 : Int) + (i : Int) = (i : Int) := Int.zero_add _
      have ha : atI l (0 + (i : Int)) = some l[i] := by rw [e0]; exact at_nat (List.getElem?_eq_getElem hi)
      refine ws_ifF (et_not (et_B (ev_call (ea_cons (ev_op (ev_var rfl) (ev_var rfl) (rv_ixxT ha)) (ea_cons (ev_op (ev_var rfl) (ev_var rfl) (rv_ixxT ha)) ea_nil)) (pr_same (D.plL_get hy.1 (List.getElem?_eq_getElem hi)))))) rfl ?_
      exact ws_next ⟨_, rfl⟩
    · rintro ρ' ⟨s2, rfl⟩
      exact ws_ret ev_bl p
  | lst l =>
    refine wq_noif (by walk_at "ev") (by rfl) ?_
    refine wq_noif (by walk_at "ev") (by rfl) ?_
    cases n with
    | zero => exact absurd hy (by simp [D.pl])
    | succ n =>
    have hy : D.plL n l = true ∧ l.length ≤ 100000 := by simpa [D.pl] using hy
    refine wq_ifF (by walk_at "ev") (by rfl) ?_
    refine ws_ifF (by walk_at "ev") (by simp) ?_
    refine ws_next ?_
    refine wq_for (src_rng1 (n := (l.length : Int)) (by walk_at "ev") (by omega)) (fun i ρ' => ∃ s2, ρ' = [.im (.lst l), .im (.lst l), s2]) ⟨.no, rfl⟩ ?_ ?_
    · rintro i d ρ' hd ⟨s2, rfl⟩
      obtain ⟨hi, rfl⟩ := rng_get hd
      refine ⟨_, gd_name, ?_⟩
      dsimp only [setD, List.set]
      have hi : i < l.length := by omega
      have e0 : (0 : Int) + (i : Int) = (i : Int) := Int.zero_add _
      have ha : atI l (0 + (i : Int)) = some l[i] := by rw [e0]; exact at_nat (List.getElem?_eq_getElem hi)
      refine ws_ifF (et_not (et_B (ev_call (ea_cons (ev_op (ev_var rfl) (ev_var rfl) (rv_ixxL ha)) (ea_cons (ev_op (ev_var rfl) (ev_var rfl) (rv_ixxL ha)) ea_nil)) (pr_same (D.plL_get hy.1 (List.getElem?_eq_getElem hi)))))) rfl ?_
      exact ws_next ⟨_, rfl⟩
    · rintro ρ' ⟨s2, rfl⟩
      exact ws_ret ev_bl p
  | bl b => cases n <;> cases hy
  | str b => cases n <;> cases hy
  | scr b => cases n <;> cases hy
  | ty b => cases n <;> cases hy
  | obj b => cases n <;> cases hy
  | ins a b c => cases n <;> cases hy
theorem ok_same (F : Df K mg "_law_same" s_law_same ["actual", "due"]) (gm : Gm mg) : ∀ n, FnG P w K mg base CX0 n "_law_same" ["actual", "due"] (spD K (P_same' n))
  | 0 => F.none
  | n + 1 => ok_same1 n F gm (ok_same F gm n)
end
end FS
set_option Elab.async false
set_option linter.all false
set_option maxRecDepth 100000
set_option maxHeartbeats 4000000
namespace FS
open PySem PySem.Spec PyProof.Rows L2

local macro_rules | `(tactic| walk_at "side") => `(tactic| first | assumption | omega | decide)
local macro_rules | `(tactic| walk_at "hv") => `(tactic| (intro i hi; simp at hi; first | (subst hi; rfl) | (rcases hi with rfl | rfl <;> rfl) | (rcases hi with rfl | rfl | rfl <;> rfl)))
local macro_rules | `(tactic| walk_at "pr") => `(tactic| fail "no promise")
local macro_rules | `(tactic| walk_at "rv") => `(tactic| first
  | (with_reducible exact rv_add) | (with_reducible exact rv_sub) | (with_reducible exact rv_lt) | (with_reducible exact rv_le) | (with_reducible exact rv_gt) | (with_reducible exact rv_ge) | (with_reducible exact rv_eq) | (with_reducible exact rv_ne)
  | (with_reducible exact rv_is) | (with_reducible exact rv_isnot)
  | ((with_reducible apply rv_div); first | assumption | exact cdiv_small (by omega) (by omega))
  | ((with_reducible apply rv_mod); first | assumption | omega)
  | ((with_reducible apply rv_mul); first | assumption | exact cmul_left (by omega) | exact cmul_right (by omega))
  | ((with_reducible apply rv_mulW); assumption)
  | (with_reducible exact rv_p8) | (with_reducible exact rv_p18) | (with_reducible exact rv_p40) | (with_reducible exact rv_p20) | (with_reducible exact rv_p6) | (with_reducible exact rv_p7) | (with_reducible exact rv_p12) | (with_reducible exact rv_p25) | (with_reducible exact rv_p30) | (with_reducible exact rv_p39) | (with_reducible exact rv_p60)
  | ((with_reducible apply rv_ixxL); first | assumption | exact at_getD (by omega) (by omega) | exact at_nat rfl)
  | ((with_reducible apply rv_ixxT); first | assumption | exact at_getD (by omega) (by omega) | exact at_nat rfl)
  | ((with_reducible apply rv_ixxC); first | assumption)
  | (with_reducible exact ru_neg))
local macro_rules | `(tactic| walk_at "isi") => `(tactic| first | (with_reducible exact isi_non_int) | (with_reducible exact isi_non_bool) | (with_reducible exact isi_non_str) | (with_reducible exact isi_non_tuple) | (with_reducible exact isi_non_list) | (with_reducible exact isi_bl_int) | (with_reducible exact isi_bl_bool) | (with_reducible exact isi_bl_str) | (with_reducible exact isi_bl_tuple) | (with_reducible exact isi_bl_list) | (with_reducible exact isi_int_int) | (with_reducible exact isi_int_bool) | (with_reducible exact isi_int_str) | (with_reducible exact isi_int_tuple) | (with_reducible exact isi_int_list) | (with_reducible exact isi_str_int) | (with_reducible exact isi_str_bool) | (with_reducible exact isi_str_str) | (with_reducible exact isi_str_tuple) | (with_reducible exact isi_str_list) | (with_reducible exact isi_tup_int) | (with_reducible exact isi_tup_bool) | (with_reducible exact isi_tup_str) | (with_reducible exact isi_tup_tuple) | (with_reducible exact isi_tup_list) | (with_reducible exact isi_lst_int) | (with_reducible exact isi_lst_bool) | (with_reducible exact isi_lst_str) | (with_reducible exact isi_lst_tuple) | (with_reducible exact isi_lst_list))
local macro_rules | `(tactic| walk_at "rc") => `(tactic| first
  | walk_at "isi"
  | (with_reducible exact rc_len) | (with_reducible exact rc_lent) | (with_reducible exact rc_lenc) | (with_reducible exact rc_toint) | (with_reducible exact rc_absv) | (with_reducible exact rc_gcd)
  | ((with_reducible apply rc_lcm); assumption)
  | ((with_reducible apply rc_isi); (focus rfl); assumption)
  | (with_reducible exact rco_list) | (with_reducible exact rco_listT))
local macro_rules | `(tactic| walk_at "ev") => `(tactic| first
  | (with_reducible exact ev_int) | (with_reducible exact ev_bl) | (with_reducible exact ev_non) | (with_reducible exact ev_str) | (with_reducible exact ev_ty)
  | ((with_reducible apply ev_var); rfl)
  | ((with_reducible apply ev_lenOw); rfl)
  | ((with_reducible apply ev_op) <;> first | walk_at "ev" | walk_at "rv")
  | ((with_reducible apply ev_un) <;> first | walk_at "ev" | walk_at "rv")
  | ((with_reducible apply ev_cb) <;> first | walk_at "ev" | walk_at "rc")
  | ((with_reducible apply ev_call) <;> first | walk_at "ev" | walk_at "pr")
  | ((with_reducible apply ev_tup) <;> first | walk_at "ev" | (simp; done))
  | (with_reducible exact ea_nil)
  | ((with_reducible apply ea_cons) <;> walk_at "ev")
  | ((with_reducible apply et_test); walk_at "ev")
  | ((with_reducible apply et_B); walk_at "ev")
  | ((with_reducible apply et_not); walk_at "ev")
  | ((with_reducible apply et_or); (walk_at "ev"); intro _; walk_at "ev")
  | ((with_reducible apply et_and); (walk_at "ev"); intro _; walk_at "ev")
  | ((with_reducible apply ev_orV); (walk_at "ev"); intro _; walk_at "ev")
  | ((with_reducible apply ev_andV); (walk_at "ev"); intro _; walk_at "ev")
  | ((with_reducible apply ev_notV); walk_at "ev")
  | (with_reducible exact et_yes)
  | ((with_reducible apply evo_lst) <;> first | walk_at "ev" | (simp; done))
  | ((with_reducible apply ev_opO) <;> first | walk_at "ev" | ((with_reducible apply rvo_add); simp; omega))
  | ((with_reducible apply ev_cbO) <;> first | walk_at "ev" | walk_at "rc")
  | ((with_reducible apply ev_callO) <;> first | walk_at "ev" | walk_at "pr")
  | ((with_reducible apply ec_call) <;> first | walk_at "ev" | walk_at "pr")
  | ((with_reducible apply ec_tup) <;> first | walk_at "ev" | (simp; done))
  | ((with_reducible apply ec_lst) <;> first | walk_at "ev" | (simp; done))
  | (with_reducible exact eca_nil)
  | ((with_reducible apply eca_cons) <;> walk_at "ev")
  | ((with_reducible apply ec_sc); (walk_at "ev"); rfl)
  | ((with_reducible apply ec_ow); (walk_at "ev"); first | assumption | (intro d hd; simp at hd; done))
  | ((with_reducible apply ec_fz); walk_at "ev")
  | ((with_reducible apply ev_fz); walk_at "ev"))

local macro_rules | `(tactic| walk_at "im") => `(tactic| ((with_reducible apply wq_asg); walk_at "ev"; (try dsimp only [List.set, Int.reduceToNat])))
local macro_rules | `(tactic| walk_at "ow") => `(tactic| ((with_reducible apply wq_asgO); walk_at "ev"; (focus (first | decide | (simp; done))); (try dsimp only [List.set, Int.reduceToNat])))
local macro_rules | `(tactic| walk_at "cl") => `(tactic| ((with_reducible apply wq_asgC); walk_at "ev"; (focus (first | decide | (simp; done))); (try dsimp only [List.set, Int.reduceToNat])))
local macro_rules | `(tactic| walk_at "if") => `(tactic| ((first | (with_reducible apply wq_when) | (with_reducible apply wq_if) | (with_reducible apply ws_if)); walk_at "ev"; (try dsimp only [Int.reduceToNat])))
local macro_rules | `(tactic| walk_at "ret") => `(tactic| ((with_reducible apply ws_ret); walk_at "ev"))
local macro_rules | `(tactic| walk_at "go") => `(tactic| (try dsimp only [cxOf, L2.Cx.nox, L2.Cx.wish, L2.Cx.blk]))
local macro_rules | `(tactic| walk_at "ints") => `(tactic| (refine ev_fz (evo_lst ?_ (by decide)); repeat (first | exact ea_nil | refine ea_cons ev_int ?_)))
/-! ### whole -/
def lcmF (xs : List Num) : Nat := xs.foldl (fun f x => Nat.lcm f x.2.natAbs) 1
def wholeN (xs : List Num) : D := .tup [.lst (xs.map fun x => .int (x.1 * ((lcmF xs : Int) / x.2))), .int (lcmF xs : Int)]
theorem lcm_bd : ∀ (xs : List Num) (f a : Nat), (∀ x ∈ xs, Good 140 x) → 0 < f → f ≤ 2 ^ a → 0 < xs.foldl (fun f x => Nat.lcm f x.2.natAbs) f ∧ xs.foldl (fun f x => Nat.lcm f x.2.natAbs) f ≤ 2 ^ (a + 140 * xs.length)
  | [], f, a, _, h0, h1 => ⟨h0, by simpa using h1⟩
  | x :: xs, f, a, hg, h0, h1 => by
    have g := hg x List.mem_cons_self
    have p1 := g.pos
    have p2 := g.dn
    have hx : x.2.natAbs ≤ 2 ^ 140 := by
      have : (x.2.natAbs : Int) < ((2 ^ 140 : Nat) : Int) := by
        rw [Int.natAbs_of_nonneg (by omega)]
        exact_mod_cast p2
      exact Nat.le_of_lt (by exact_mod_cast this)
    have hl : Nat.lcm f x.2.natAbs ≤ 2 ^ (a + 140) := by
      have h2 : Nat.lcm f x.2.natAbs ≤ f * x.2.natAbs := by
        unfold Nat.lcm
        exact Nat.div_le_self _ _
      rw [Nat.pow_add]
      exact Nat.le_trans h2 (Nat.mul_le_mul h1 hx)
    have r := lcm_bd xs (Nat.lcm f x.2.natAbs) (a + 140) (fun y hy => hg y (List.mem_cons_of_mem _ hy)) (Nat.lcm_pos h0 (by omega)) hl
    rw [List.foldl_cons, List.length_cons]
    have e : a + 140 * (xs.length + 1) = a + 140 + 140 * xs.length := by omega
    rw [e]
    exact r
theorem lcmF_bd {xs : List Num} (hg : ∀ x ∈ xs, Good 140 x) : 0 < lcmF xs ∧ lcmF xs ≤ 2 ^ (140 * xs.length) := by
  have := lcm_bd xs 1 0 hg (by decide) (by decide)
  rw [Nat.zero_add] at this
  exact this
theorem lcmF_take {xs : List Num} {i : Nat} {x : Num} (h : xs[i]? = some x) : lcmF (xs.take (i + 1)) = Nat.lcm (lcmF (xs.take i)) x.2.natAbs := by
  unfold lcmF
  rw [List.take_add_one, h, List.foldl_append]
  rfl
theorem lcmF_8540 {xs : List Num} (hg : ∀ x ∈ xs, Good 140 x) (hl : xs.length ≤ 61) : lcmF xs < 2 ^ 8541 :=
  Nat.lt_of_le_of_lt (lcmF_bd hg).2 (Nat.lt_of_le_of_lt (Nat.pow_le_pow_right (by decide) (by omega)) (Nat.pow_lt_pow_right (by decide) (by decide) : 2 ^ (140 * 61) < 2 ^ 8541))
theorem cast_lt {a k : Nat} (h : a < 2 ^ k) : (a : Int) < 2 ^ k := by exact_mod_cast h
theorem clcm_ok {f : Nat} {d : Int} (h0 : 0 < f) (h1 : f < 2 ^ 8541) (h2 : 0 < d) (h3 : d < 2 ^ 140) : CLcm (f : Int) d :=
  ⟨by omega, h2, cast_lt (Nat.lt_of_lt_of_le h1 (Nat.pow_le_pow_right (by decide) (by decide))), Int.lt_of_lt_of_le h3 (by exact_mod_cast (Nat.pow_le_pow_right (by decide) (by decide) : 2 ^ 140 ≤ 2 ^ 13499))⟩
theorem div_up {f : Nat} {d : Int} {k : Nat} (h : f < 2 ^ k) (hd : 0 < d) : ((f : Int) / d).natAbs < 2 ^ k := by
  have e : ((f : Int) / d) = ((f / d.natAbs : Nat) : Int) := by
    have : d = ((d.natAbs : Nat) : Int) := by omega
    rw [Int.natCast_ediv, ← this]
  rw [e, Int.natAbs_natCast]
  exact Nat.lt_of_le_of_lt (Nat.div_le_self _ _) h
theorem abs_lt {d : Int} {k : Nat} (h0 : 0 < d) (h : d < 2 ^ k) : d.natAbs < 2 ^ k := by
  have : (d.natAbs : Int) < ((2 ^ k : Nat) : Int) := by
    rw [Int.natAbs_of_nonneg (by omega)]
    exact_mod_cast h
  exact_mod_cast this
section
variable {P : Program} {w : World} {K : PySem.W.Frag} {mg : Str → Option Value} {base : Heap}
def P_whole : PrD := fun ds R _ => ∃ xs : List Num, ds = [.lst (xs.map numD)] ∧ (∀ x ∈ xs, Good 140 x) ∧ xs.length ≤ 61 ∧ R (.cl (wholeN xs))
theorem pr_whole {xs : List Num} (h : ∀ x ∈ xs, Good 140 x) (hl : xs.length ≤ 61) : P_whole [.lst (xs.map numD)] (fun s => s = .cl (wholeN xs)) (fun _ => False) := ⟨xs, rfl, h, hl, rfl⟩
abbrev s_whole : Stmt := topS 2
abbrev N_whole : List Str := ["numbers", "factor", "_", "d", "n"]
theorem sc_whole : FnScope ["numbers", "factor", "_", "d", "n"] ["numbers"] (defScope s_whole) := ⟨rfl, rfl, rfl, by decide +kernel, rfl, by decide +kernel, by decide +kernel⟩
theorem ok_whole (F : Df K mg "whole" s_whole ["numbers"]) (gm : Gm mg) : FnG P w K mg base CX0 1 "whole" ["numbers"] (spD K P_whole) := by
  refine F.ok (k := 0) sc_whole (fun ds R Z ⟨a, e, _⟩ => by rw [e] <;> rfl) (fun f cdv A outer s H E hr => ?_)
  refine ⟨_,
    (pss_cons (sv 1 sc_whole.nd pe_int)
    (pss_cons (ps_for PassesOwn.never rfl (pl K (pv 0)) (gt K rfl (pgs_cons (gn 2 sc_whole.nd) (pgs_cons (gn 3 sc_whole.nd) pgs_nil))) (pss_one (sv 1 sc_whole.nd (pe_callBfun cLcm (by rfl) gm.lcm (pa_cons (pv 1) (pa_cons (pv 3) pa_nil))))))
    (pss_one (ps_ret (pe_tup (pa_cons (pe_lc (own := [("n", 4), ("d", 3)]) rfl sc_whole.nd (pl K (pv 0)) (blkOk_by (N := N_whole) (sc := defScope s_whole) (by decide +kernel)) (fun _ _ _ _ _ => (gt K (n := 2) rfl (pgs_cons (gn 4 sc_whole.nd) (pgs_cons (gn 3 sc_whole.nd) pgs_nil)))) (fun _ _ _ _ _ => pts_nil) (fun _ _ _ _ _ => (pe_op opMul (pv 4) (pe_op opDiv (pv 1) (pv 3))))) (pa_cons (pv 1) pa_nil))))))), fun ds R Z p => ?_⟩
  obtain ⟨xs, rfl, hg, hl, p⟩ := p
  refine ws_to (ρ' := [.im (.lst (xs.map numD)), .no, .no, .no, .no]) rfl ?_
  walk_at "go"
  walk_at "im"
  refine wq_for (src_list (ev_var rfl)) (fun i ρ' => ∃ s2 s3, ρ' = [.im (.lst (xs.map numD)), .im (.int (lcmF (xs.take i) : Int)), s2, s3, .no] ∧ isOw (some s2) = false ∧ isOw (some s3) = false) ⟨.no, .no, rfl, rfl, rfl⟩ ?_ ?_
  · rintro i d ρ' hd ⟨s2, s3, rfl, _, _⟩
    obtain ⟨x, hx, rfl⟩ := map_get hd
    refine ⟨_, gd_tup2, ?_⟩
    dsimp only [setD, List.set]
    have g := hg x (List.mem_of_getElem? hx)
    have ht : ∀ y ∈ xs.take i, Good 140 y := fun y hy => hg y (List.mem_of_mem_take hy)
    have hb := lcmF_bd ht
    have h8 := lcmF_8540 ht (by rw [List.length_take]; omega)
    refine ws_asg (d := .int (lcmF (xs.take (i + 1)) : Int)) ?_ ⟨_, _, rfl, rfl, rfl⟩
    rw [lcmF_take hx]
    have := ev_cb (K := K) (ρ := [.im (.lst (xs.map numD)), .im (.int (lcmF (xs.take i) : Int)), .im (.int x.1), .im (.int x.2), .no]) (ea_cons (ev_var (i := 1) rfl) (ea_cons (ev_var (i := 3) rfl) ea_nil)) (rc_lcm (clcm_ok hb.1 h8 g.pos g.dn))
    rw [Int.natAbs_natCast] at this
    exact this
  · rintro ρ' ⟨s2, s3, rfl, h2, h3⟩
    rw [List.length_map, List.take_length]
    have hb := lcmF_bd hg
    have h8 := lcmF_8540 hg hl
    refine ws_retC (d := wholeN xs) (ec_tup (eca_cons (ec_ow (evo_map (xs := xs) (enc := numD) (fun x => D.int (x.1 * ((lcmF xs : Int) / x.2))) (src_list (ev_var rfl)) ?_ (fun x hx => ⟨_, gd_tup2, by simp, ?_⟩) (by omega)) ?_) (eca_cons (ec_sc (ev_var rfl) rfl) eca_nil)) (by simp)) p
    · intro i hi
      have hi : i = 4 ∨ i = 3 := by simpa using hi
      rcases hi with rfl | rfl
      · rfl
      · exact h3
    · dsimp only [setD, wipeD, List.set, List.map]
      have g := hg x hx
      have q1 : CDivW (lcmF xs : Int) x.2 := wide_div (b := 140) g.pos (abs_lt g.pos g.dn) (by decide) (by decide)
      have q2 : CMulW x.1 ((lcmF xs : Int) / x.2) := wide_mul (a := 140) (b := 8541) g.up (div_up h8 g.pos) (by decide) (by decide) (by decide)
      exact ev_op (ev_var rfl) (ev_op (ev_var rfl) (ev_var rfl) (rv_div q1)) (rv_mulW q2)
    · intro d hd
      obtain ⟨x, _, rfl⟩ := List.mem_map.mp hd
      rfl
def P_due : PrD := P_whole
abbrev s_law_due : Stmt := topS 12
abbrev N_law_due : List Str := ["numbers", "factor", "number"]
theorem sc_law_due : FnScope ["numbers", "factor", "number"] ["numbers"] (defScope s_law_due) := ⟨rfl, rfl, rfl, by decide +kernel, rfl, by decide +kernel, by decide +kernel⟩
theorem lcm_eq (f : Nat) {d : Int} (hd : 0 < d) : (f : Int) / ((Nat.gcd (f : Int).natAbs d.natAbs : Nat) : Int) * d = (Nat.lcm f d.natAbs : Nat) := by
  have e : d = ((d.natAbs : Nat) : Int) := by omega
  rw [Int.natAbs_natCast]
  generalize d.natAbs = m at e
  subst e
  rw [← Int.natCast_ediv, ← Int.natCast_mul]
  congr 1
  unfold Nat.lcm
  exact (Nat.div_mul_right_comm (Nat.gcd_dvd_left _ _) _)
theorem ok_due (F : Df K mg "_law_due" s_law_due ["numbers"]) (gm : Gm mg) (G_law_gcd : FnG P w K mg base CX0 1 "_law_gcd" ["first", "second"] (spD K (P_gcd 1999))) : FnG P w K mg base CX0 2 "_law_due" ["numbers"] (spD K P_whole) := by
  refine F.ok (k := 1) sc_law_due (fun ds R Z ⟨a, e, _⟩ => by rw [e] <;> rfl) (fun f cdv A outer s H E hr => ?_)
  refine ⟨_,
    (pss_cons (sv 1 sc_law_due.nd pe_int)
    (pss_cons (ps_for PassesOwn.never rfl (pl K (pv 0)) (gn 2 sc_law_due.nd) (pss_one (sv 1 sc_law_due.nd (pe_op opMul (pe_op opDiv (pv 1) (pe_g G_law_gcd hr.le pass0 (pa_cons (pv 1) (pa_cons (ix K (pv 2) pe_int) pa_nil)))) (ix K (pv 2) pe_int)))))
    (pss_one (ps_ret (pe_tup (pa_cons (pe_lc (own := [("number", 2)]) rfl sc_law_due.nd (pl K (pv 0)) (blkOk_by (N := N_law_due) (sc := defScope s_law_due) (by decide +kernel)) (fun _ _ _ _ _ => (gn 2 sc_law_due.nd)) (fun _ _ _ _ _ => pts_nil) (fun _ _ _ _ _ => (pe_op opMul (ix K (pv 2) pe_int) (pe_op opDiv (pv 1) (ix K (pv 2) pe_int))))) (pa_cons (pv 1) pa_nil))))))), fun ds R Z p => ?_⟩
  obtain ⟨xs, rfl, hg, hl, p⟩ := p
  refine ws_to (ρ' := [.im (.lst (xs.map numD)), .no, .no]) rfl ?_
  walk_at "go"
  walk_at "im"
  refine wq_for (src_list (ev_var rfl)) (fun i ρ' => ∃ s2, ρ' = [.im (.lst (xs.map numD)), .im (.int (lcmF (xs.take i) : Int)), s2] ∧ isOw (some s2) = false) ⟨.no, rfl, rfl⟩ ?_ ?_
  · rintro i d ρ' hd ⟨s2, rfl, _⟩
    obtain ⟨x, hx, rfl⟩ := map_get hd
    refine ⟨_, gd_name, ?_⟩
    dsimp only [setD, List.set]
    have g := hg x (List.mem_of_getElem? hx)
    have ht : ∀ y ∈ xs.take i, Good 140 y := fun y hy => hg y (List.mem_of_mem_take hy)
    have hb := lcmF_bd ht
    have h8 := lcmF_8540 ht (by rw [List.length_take]; omega)
    refine ws_asg (d := .int (lcmF (xs.take (i + 1)) : Int)) ?_ ⟨_, rfl, rfl⟩
    rw [lcmF_take hx, ← lcm_eq _ g.pos]
    have d0 := g.pos
    have g0 : 0 < Nat.gcd (lcmF (xs.take i) : Int).natAbs x.2.natAbs := gcd_pos' g.pos
    have gl : Nat.gcd (lcmF (xs.take i) : Int).natAbs x.2.natAbs ≤ x.2.natAbs := Nat.gcd_le_right _ (by omega)
    have ga : x.2.natAbs < 2 ^ 140 := abs_lt g.pos g.dn
    have q1 : CDivW (lcmF (xs.take i) : Int) ((Nat.gcd (lcmF (xs.take i) : Int).natAbs x.2.natAbs : Nat) : Int) := wide_div (b := 140) (by omega) (by rw [Int.natAbs_natCast]; exact Nat.lt_of_le_of_lt gl ga) (by decide) (by decide)
    have q2 : CMulW ((lcmF (xs.take i) : Int) / ((Nat.gcd (lcmF (xs.take i) : Int).natAbs x.2.natAbs : Nat) : Int)) x.2 := wide_mul (a := 8541) (b := 140) (div_up h8 (by omega)) ga (by decide) (by decide) (by decide)
    exact ev_op (ev_op (ev_var rfl) (ev_call (ea_cons (ev_var rfl) (ea_cons (ev_op (ev_var rfl) ev_int (rv_ixxT (at_nat (j := 1) rfl))) ea_nil)) (pr_gcd (by omega) (by omega) (Int.lt_trans g.dn (by exact_mod_cast (Nat.pow_lt_pow_right (by decide) (by decide) : 2 ^ 140 < 2 ^ 1999))))) (rv_div q1)) (ev_op (ev_var rfl) ev_int (rv_ixxT (at_nat (j := 1) rfl))) (rv_mulW q2)
  · rintro ρ' ⟨s2, rfl, h2⟩
    rw [List.length_map, List.take_length]
    have hb := lcmF_bd hg
    have h8 := lcmF_8540 hg hl
    refine ws_retC (d := wholeN xs) (ec_tup (eca_cons (ec_ow (evo_map (xs := xs) (enc := numD) (fun x => D.int (x.1 * ((lcmF xs : Int) / x.2))) (src_list (ev_var rfl)) ?_ (fun x hx => ⟨_, gd_name, by simp, ?_⟩) (by omega)) ?_) (eca_cons (ec_sc (ev_var rfl) rfl) eca_nil)) (by simp)) p
    · intro i hi
      have hi : i = 2 := by simpa using hi
      rw [hi]
      exact h2
    · dsimp only [setD, wipeD, List.set, List.map]
      have g := hg x hx
      have q1 : CDivW (lcmF xs : Int) x.2 := wide_div (b := 140) g.pos (abs_lt g.pos g.dn) (by decide) (by decide)
      have q2 : CMulW x.1 ((lcmF xs : Int) / x.2) := wide_mul (a := 140) (b := 8541) g.up (div_up h8 g.pos) (by decide) (by decide) (by decide)
      exact ev_op (ev_op (ev_var rfl) ev_int (rv_ixxT (at_nat (j := 0) rfl))) (ev_op (ev_var rfl) (ev_op (ev_var rfl) ev_int (rv_ixxT (at_nat (j := 1) rfl))) (rv_div q1)) (rv_mulW q2)
    · intro d hd
      obtain ⟨x, _, rfl⟩ := List.mem_map.mp hd
      rfl
end
end FS
set_option Elab.async false
set_option linter.all false
set_option maxRecDepth 100000
set_option maxHeartbeats 4000000
namespace FS
open PySem PySem.Spec PyProof.Rows L2

local macro_rules | `(tactic| walk_at "side") => `(tactic| first | assumption | omega | decide)
local macro_rules | `(tactic| walk_at "hv") => `(tactic| (intro i hi; simp at hi; first | (subst hi; rfl) | (rcases hi with rfl | rfl <;> rfl) | (rcases hi with rfl | rfl | rfl <;> rfl)))
local macro_rules | `(tactic| walk_at "pr") => `(tactic| fail "no promise")
local macro_rules | `(tactic| walk_at "rv") => `(tactic| first
  | (with_reducible exact rv_add) | (with_reducible exact rv_sub) | (with_reducible exact rv_lt) | (with_reducible exact rv_le) | (with_reducible exact rv_gt) | (with_reducible exact rv_ge) | (with_reducible exact rv_eq) | (with_reducible exact rv_ne)
  | (with_reducible exact rv_is) | (with_reducible exact rv_isnot)
  | ((with_reducible apply rv_div); first | assumption | exact cdiv_small (by omega) (by omega))
  | ((with_reducible apply rv_mod); first | assumption | omega)
  | ((with_reducible apply rv_mul); first | assumption | exact cmul_left (by omega) | exact cmul_right (by omega))
  | ((with_reducible apply rv_mulW); assumption)
  | (with_reducible exact rv_p8) | (with_reducible exact rv_p18) | (with_reducible exact rv_p40) | (with_reducible exact rv_p20) | (with_reducible exact rv_p6) | (with_reducible exact rv_p7) | (with_reducible exact rv_p12) | (with_reducible exact rv_p25) | (with_reducible exact rv_p30) | (with_reducible exact rv_p39) | (with_reducible exact rv_p60)
  | ((with_reducible apply rv_ixxL); first | assumption | exact at_getD (by omega) (by omega) | exact at_nat rfl)
  | ((with_reducible apply rv_ixxT); first | assumption | exact at_getD (by omega) (by omega) | exact at_nat rfl)
  | ((with_reducible apply rv_ixxC); first | assumption)
  | (with_reducible exact ru_neg))
local macro_rules | `(tactic| walk_at "isi") => `(tactic| first | (with_reducible exact isi_non_int) | (with_reducible exact isi_non_bool) | (with_reducible exact isi_non_str) | (with_reducible exact isi_non_tuple) | (with_reducible exact isi_non_list) | (with_reducible exact isi_bl_int) | (with_reducible exact isi_bl_bool) | (with_reducible exact isi_bl_str) | (with_reducible exact isi_bl_tuple) | (with_reducible exact isi_bl_list) | (with_reducible exact isi_int_int) | (with_reducible exact isi_int_bool) | (with_reducible exact isi_int_str) | (with_reducible exact isi_int_tuple) | (with_reducible exact isi_int_list) | (with_reducible exact isi_str_int) | (with_reducible exact isi_str_bool) | (with_reducible exact isi_str_str) | (with_reducible exact isi_str_tuple) | (with_reducible exact isi_str_list) | (with_reducible exact isi_tup_int) | (with_reducible exact isi_tup_bool) | (with_reducible exact isi_tup_str) | (with_reducible exact isi_tup_tuple) | (with_reducible exact isi_tup_list) | (with_reducible exact isi_lst_int) | (with_reducible exact isi_lst_bool) | (with_reducible exact isi_lst_str) | (with_reducible exact isi_lst_tuple) | (with_reducible exact isi_lst_list))
local macro_rules | `(tactic| walk_at "rc") => `(tactic| first
  | walk_at "isi"
  | (with_reducible exact rc_len) | (with_reducible exact rc_lent) | (with_reducible exact rc_lenc) | (with_reducible exact rc_toint) | (with_reducible exact rc_absv) | (with_reducible exact rc_gcd)
  | ((with_reducible apply rc_lcm); assumption)
  | ((with_reducible apply rc_isi); (focus rfl); assumption)
  | (with_reducible exact rco_list) | (with_reducible exact rco_listT))
local macro_rules | `(tactic| walk_at "ev") => `(tactic| first
  | (with_reducible exact ev_int) | (with_reducible exact ev_bl) | (with_reducible exact ev_non) | (with_reducible exact ev_str) | (with_reducible exact ev_ty)
  | ((with_reducible apply ev_var); rfl)
  | ((with_reducible apply ev_lenOw); rfl)
  | ((with_reducible apply ev_op) <;> first | walk_at "ev" | walk_at "rv")
  | ((with_reducible apply ev_un) <;> first | walk_at "ev" | walk_at "rv")
  | ((with_reducible apply ev_cb) <;> first | walk_at "ev" | walk_at "rc")
  | ((with_reducible apply ev_call) <;> first | walk_at "ev" | walk_at "pr")
  | ((with_reducible apply ev_tup) <;> first | walk_at "ev" | (simp; done))
  | (with_reducible exact ea_nil)
  | ((with_reducible apply ea_cons) <;> walk_at "ev")
  | ((with_reducible apply et_test); walk_at "ev")
  | ((with_reducible apply et_B); walk_at "ev")
  | ((with_reducible apply et_not); walk_at "ev")
  | ((with_reducible apply et_or); (walk_at "ev"); intro _; walk_at "ev")
  | ((with_reducible apply et_and); (walk_at "ev"); intro _; walk_at "ev")
  | ((with_reducible apply ev_orV); (walk_at "ev"); intro _; walk_at "ev")
  | ((with_reducible apply ev_andV); (walk_at "ev"); intro _; walk_at "ev")
  | ((with_reducible apply ev_notV); walk_at "ev")
  | (with_reducible exact et_yes)
  | ((with_reducible apply evo_lst) <;> first | walk_at "ev" | (simp; done))
  | ((with_reducible apply ev_opO) <;> first | walk_at "ev" | ((with_reducible apply rvo_add); simp; omega))
  | ((with_reducible apply ev_cbO) <;> first | walk_at "ev" | walk_at "rc")
  | ((with_reducible apply ev_callO) <;> first | walk_at "ev" | walk_at "pr")
  | ((with_reducible apply ec_call) <;> first | walk_at "ev" | walk_at "pr")
  | ((with_reducible apply ec_tup) <;> first | walk_at "ev" | (simp; done))
  | ((with_reducible apply ec_lst) <;> first | walk_at "ev" | (simp; done))
  | (with_reducible exact eca_nil)
  | ((with_reducible apply eca_cons) <;> walk_at "ev")
  | ((with_reducible apply ec_sc); (walk_at "ev"); rfl)
  | ((with_reducible apply ec_ow); (walk_at "ev"); first | assumption | (intro d hd; simp at hd; done))
  | ((with_reducible apply ec_fz); walk_at "ev")
  | ((with_reducible apply ev_fz); walk_at "ev"))

local macro_rules | `(tactic| walk_at "im") => `(tactic| ((with_reducible apply wq_asg); walk_at "ev"; (try dsimp only [List.set, Int.reduceToNat])))
local macro_rules | `(tactic| walk_at "ow") => `(tactic| ((with_reducible apply wq_asgO); walk_at "ev"; (focus (first | decide | (simp; done))); (try dsimp only [List.set, Int.reduceToNat])))
local macro_rules | `(tactic| walk_at "cl") => `(tactic| ((with_reducible apply wq_asgC); walk_at "ev"; (focus (first | decide | (simp; done))); (try dsimp only [List.set, Int.reduceToNat])))
local macro_rules | `(tactic| walk_at "if") => `(tactic| ((first | (with_reducible apply wq_when) | (with_reducible apply wq_if) | (with_reducible apply ws_if)); walk_at "ev"; (try dsimp only [Int.reduceToNat])))
local macro_rules | `(tactic| walk_at "ret") => `(tactic| ((with_reducible apply ws_ret); walk_at "ev"))
local macro_rules | `(tactic| walk_at "go") => `(tactic| (try dsimp only [cxOf, L2.Cx.nox, L2.Cx.wish, L2.Cx.blk]))
local macro_rules | `(tactic| walk_at "ints") => `(tactic| (refine ev_fz (evo_lst ?_ (by decide)); repeat (first | exact ea_nil | refine ea_cons ev_int ?_)))
section
variable {P : Program} {w : World} {K : PySem.W.Frag} {mg : Str → Option Value} {base : Heap}
theorem flat_num (x : Num) : D.flat 1 (numD x) = true := rfl
theorem flat_nums (xs : List Num) : D.flat 2 (.lst (xs.map numD)) = true := by
  rw [D.flat, flatL_iff]
  intro d hd
  obtain ⟨x, _, rfl⟩ := List.mem_map.mp hd
  exact flat_num x
theorem pl_whole {xs : List Num} (hl : xs.length ≤ 61) : D.pl 2 (wholeN xs) = true := by
  have h1 : D.plL 0 (xs.map fun x => D.int (x.1 * ((lcmF xs : Int) / x.2))) = true := D.plL_of fun d hd => by
    obtain ⟨x, _, rfl⟩ := List.mem_map.mp hd
    rfl
  have h2 : D.pl 1 (.lst (xs.map fun x => D.int (x.1 * ((lcmF xs : Int) / x.2)))) = true := by
    rw [D.pl, h1, List.length_map, decide_eq_true (by omega)] <;> rfl
  show (D.plL 1 _ && _) = true
  rw [D.plL, h2] <;> rfl
def turnedN (xs : List Num) : List Num := ((List.range xs.length).map fun k => xs.getD (xs.length - 1 - k) (0, 1)) ++ [(-2, 11)]
theorem turnedN_ok {xs : List Num} (h : ∀ x ∈ xs, Good 140 x) (hl : xs.length ≤ 60) : (∀ x ∈ turnedN xs, Good 140 x) ∧ (turnedN xs).length ≤ 61 := by
  refine ⟨fun x hx => ?_, by rw [turnedN, List.length_append, List.length_map, List.length_range]; exact Nat.succ_le_succ hl⟩
  rcases List.mem_append.mp hx with hx | hx
  · obtain ⟨k, hk, rfl⟩ := List.mem_map.mp hx
    have hk : k < xs.length := List.mem_range.mp hk
    rw [List.getD_eq_getElem?_getD, List.getElem?_eq_getElem (by omega)]
    exact h _ (List.getElem_mem _)
  · have e : x = (-2, 11) := by simpa using hx
    rw [e]
    exact ⟨by decide, by decide, by decide, by decide⟩
abbrev s_law : Stmt := topS 13
abbrev N_law : List Str := ["script", "numbers", "handed", "answer", "turned", "k"]
theorem sc_law : FnScope ["script", "numbers", "handed", "answer", "turned", "k"] ["script"] (defScope s_law) := ⟨rfl, rfl, rfl, by decide +kernel, rfl, by decide +kernel, by decide +kernel⟩
theorem ok_law {f : Addr} {fd : FuncData} (F : Fun K "law" "law" s_law f fd) (gm : Gm mg) (G_law_numbers : FnG P w K mg base CX0 4 "_law_numbers" ["script"] (spD K P_numbers)) (G_whole : FnG P w K mg base CX0 1 "whole" ["numbers"] (spD K P_whole))
    (G_law_due : FnG P w K mg base CX0 2 "_law_due" ["numbers"] (spD K P_whole)) (G_law_same : FnG P w K mg base CX0 3 "_law_same" ["actual", "due"] (spD K (P_same 2))) : FnOk P w K mg base CX0 5 f fd ["script"] (spD K P_law) := by
  refine okD F (k := 4) sc_law (fun ds R Z ⟨a, e, _⟩ => by rw [e] <;> rfl) (fun f cdv A outer s H E hr => ?_)
  refine ⟨_,
    (pss_cons (sv 1 sc_law.nd (pe_g G_law_numbers hr.le pass0 (pa_cons (pv 0) pa_nil)))
    (pss_cons (sv 2 sc_law.nd (ct (kList K) gm.list (pa_cons (pv 1) pa_nil)))
    (pss_cons (sv 3 sc_law.nd (pe_g G_whole hr.le pass0 (pa_cons (pv 2) pa_nil)))
    (pss_cons (ps_if (PW.pt (pw_or (pt_cmpR (kNe K hr.units) (pv 2) (pv 1) (nomark _)) (pw_or1 (pt_not (pt_val (pe_g G_law_same hr.le pass0 (pa_cons (pv 3) (pa_cons (pe_g G_law_due hr.le pass0 (pa_cons (pv 1) pa_nil)) pa_nil)))))))) (pss_one (ps_ret pe_bl)) pss_nil)
    (pss_cons (ps_expr (ml_append K (pv 2) (pa_cons (pe_tup (pa_cons pe_int (pa_cons pe_int pa_nil))) pa_nil)))
    (pss_cons (ps_if (pt_not (pt_val (pe_g G_law_same hr.le pass0 (pa_cons (pv 3) (pa_cons (pe_g G_law_due hr.le pass0 (pa_cons (pv 1) pa_nil)) pa_nil))))) (pss_one (ps_ret pe_bl)) pss_nil)
    (pss_cons (ps_expr (ml_append K (ix K (pv 3) pe_int) (pa_cons pe_int pa_nil)))
    (pss_cons (ps_if (pt_not (pt_val (pe_g G_law_same hr.le pass0 (pa_cons (pe_g G_whole hr.le pass0 (pa_cons (ct (kList K) gm.list (pa_cons (pv 1) pa_nil)) pa_nil)) (pa_cons (pe_g G_law_due hr.le pass0 (pa_cons (pv 1) pa_nil)) pa_nil))))) (pss_one (ps_ret pe_bl)) pss_nil)
    (pss_cons (sv 4 sc_law.nd (pe_op (kAdd K) (pe_lc (own := [("k", 5)]) rfl sc_law.nd (pi_range1 (by rfl) gm.range (pa_cons (cb (kLen K) gm.len (pa_cons (pv 1) pa_nil)) pa_nil)) (blkOk_by (N := N_law) (sc := defScope s_law) (by decide +kernel)) (fun _ _ _ _ _ => (gn 5 sc_law.nd)) (fun _ _ _ _ _ => pts_nil) (fun _ _ _ _ _ => (ix K (pv 1) (pe_op opSub (pe_op opSub (cb (kLen K) gm.len (pa_cons (pv 1) pa_nil)) pe_int) (pv 5))))) (pe_lst (pa_cons (pe_tup (pa_cons (pe_un unNeg pe_int) (pa_cons pe_int pa_nil))) pa_nil))))
    (pss_one (ps_ret (pe_and (pe_g G_law_same hr.le pass0 (pa_cons (pe_g G_whole hr.le pass0 (pa_cons (ct (kList K) gm.list (pa_cons (pv 4) pa_nil)) pa_nil)) (pa_cons (pe_g G_law_due hr.le pass0 (pa_cons (pv 4) pa_nil)) pa_nil))) (pe_one (pe_g G_law_same hr.le pass0 (pa_cons (pe_g G_whole hr.le pass0 (pa_cons (pe_lst pa_nil) pa_nil)) (pa_cons (pe_tup (pa_cons (pe_lst pa_nil) (pa_cons pe_int pa_nil))) pa_nil)))))))))))))))), fun ds R Z p => ?_⟩
  obtain ⟨ns, rfl, p⟩ := p
  refine ws_to (ρ' := [.im (.scr ns), .no, .no, .no, .no, .no]) rfl ?_
  walk_at "go"
  have hok := numbersN_ok ns
  refine wq_asg (ev_call (ea_cons (ev_var rfl) ea_nil) pr_numbers) ?_
  generalize numbersN ns = xs at hok
  obtain ⟨hl, hg⟩ := hok
  have w61 := pr_whole hg (Nat.le_succ_of_le hl)
  have hpl := pl_whole (xs := xs) (by omega)
  have hto := turnedN_ok hg hl
  have wt := pr_whole hto.1 hto.2
  have hplt := pl_whole (xs := turnedN xs) hto.2
  dsimp only [List.set]
  refine wq_asgO (ev_cbO (ea_cons (ev_var rfl) ea_nil) rco_list) (by simp) ?_
  dsimp only [List.set]
  refine wq_asgC (ec_callN (ena_cons (en_ow rfl) ena_nil) w61) (by simp) ?_
  dsimp only [List.set]
  refine wq_noif (et_or (et_test (ev_now (en_op (en_ow rfl) (en_d (ev_var rfl)) (rv_neDD (flat_nums xs) (by decide))) rfl)) fun _ => et_not (et_B (ev_callN (ena_cons (en_cl rfl) (ena_cons (en_d (ec_fz (ec_call (ea_cons (ev_var rfl) ea_nil) w61))) ena_nil)) (pr_same hpl) rfl))) (by rfl) ?_
  refine wq_app rfl (ev_tup (ea_cons ev_int (ea_cons ev_int ea_nil)) (by simp)) (by rw [List.length_map]; omega) ?_
  dsimp only [List.set]
  refine wq_noif (et_not (et_B (ev_callN (ena_cons (en_cl rfl) (ena_cons (en_d (ec_fz (ec_call (ea_cons (ev_var rfl) ea_nil) w61))) ena_nil)) (pr_same hpl) rfl))) (by rfl) ?_
  refine wq_app0 (l := xs.map fun x => .int (x.1 * ((lcmF xs : Int) / x.2))) (ds := [.int (lcmF xs : Int)]) rfl ev_int rfl (by rw [List.length_map]; omega) rfl ?_
  dsimp only [List.set]
  have hwl : EvD K (tCall (spD K P_whole) [] E0 (tCons (tCB (rListA K) (tCons (tVar 1) tNil)) tNil)) [.im (.scr ns), .im (.lst (xs.map numD)), .ow (xs.map numD ++ [.tup [.int 1, .int 7]]), .cl (.tup (.lst ((xs.map fun x => .int (x.1 * ((lcmF xs : Int) / x.2))) ++ [.int 1]) :: [.int (lcmF xs : Int)])), .no, .no] (wholeN xs) := ec_fz (ec_call (ea_cons (ev_fz (ev_cbO (ea_cons (ev_var (i := 1) rfl) ea_nil) rco_list)) ea_nil) w61)
  refine wq_noif (et_not (et_B (ev_call (ea_cons hwl (ea_cons (ec_fz (ec_call (ea_cons (ev_var rfl) ea_nil) w61)) ea_nil)) (pr_same hpl)))) (by rfl) ?_
  have hle : ((xs.map numD).length : Int) = (xs.length : Int) := by rw [List.length_map]
  refine wq_asg (d := .lst ((turnedN xs).map numD)) (ev_fz ((ev_opO (ev_fz (evo_map (xs := List.range xs.length) (enc := fun k : Nat => D.int (0 + (k : Int))) (fun k => numD (xs.getD (xs.length - 1 - k) (0, 1))) (src_rng1 (n := (xs.length : Int)) (ea_cons ((ev_cb (ea_cons (ev_var rfl) ea_nil) rc_len).is (by rw [hle])) ea_nil) (by omega)) (by walk_at "hv") (fun k hk => ⟨_, gd_name, by simp, ?_⟩) (by rw [List.length_range]; omega))) (ev_fz (evo_lst (ea_cons (ev_tup (ea_cons (ev_un ev_int ru_neg) (ea_cons ev_int ea_nil)) (by simp)) ea_nil) (by simp))) (rvo_add (by rw [List.length_map, List.length_range]; exact Nat.le_trans (Nat.succ_le_succ hl) (by decide)))).is ?_)) ?_
  · dsimp only [setD, wipeD, List.set, List.map]
    have hk : k < xs.length := List.mem_range.mp hk
    have e : (((xs.map numD).length : Int) - 1 - (0 + (k : Int))) = ((xs.length - 1 - k : Nat) : Int) := by rw [hle]; omega
    refine ev_op (ev_var rfl) (ev_op (ev_op (ev_cb (ea_cons (ev_var rfl) ea_nil) rc_len) ev_int rv_sub) (ev_var rfl) rv_sub) (rv_ixxL ?_)
    rw [e]
    refine at_map ?_
    rw [List.getD_eq_getElem?_getD, List.getElem?_eq_getElem (by omega)]
    rfl
  · rw [turnedN, List.map_append, List.map_map]
    rfl
  · dsimp only [List.set]
    refine ws_ret (d := .bl (true && true)) (ev_andV (ev_call (ea_cons (ec_fz (ec_call (ea_cons (ev_fz (ev_cbO (ea_cons (ev_var rfl) ea_nil) rco_list)) ea_nil) wt)) (ea_cons (ec_fz (ec_call (ea_cons (ev_var rfl) ea_nil) wt)) ea_nil)) (pr_same hplt)) fun _ => ev_call (ea_cons (ec_fz (ec_call (ea_cons (ev_fz (evo_lst ea_nil (by simp))) ea_nil) (pr_whole (xs := []) (by simp) (by simp)))) (ea_cons (ev_tup (ea_cons (ev_fz (evo_lst ea_nil (by simp))) (ea_cons ev_int ea_nil)) (by simp)) ea_nil)) (pr_same (y := wholeN []) rfl)) p
end
theorem all_mk {l : PySem.W.OpenLaw} {w : World} {K : PySem.W.Frag} {h : Heap} {mg : Str → Option Value} {fa f0 f1 f2 f3 f4 f5 f6 f7 f8 f9 f10 : Addr} (X : K.In h) (G : h.Ns mainGlobals mg) (hfa : mg "law" = some (.ref fa))
    {od0 an0 od1 an1 od2 an2 od3 an3 od4 an4 od5 an5 od6 an6 od7 an7 od8 an8 od9 an9 od10 an10 : Option Addr} {sl0 sl1 sl2 sl3 sl4 sl5 sl6 sl7 sl8 sl9 sl10 : Array (Option Value)} {oc0 kV0 dc0 pm0 cd0 ct0 oc1 kV1 dc1 pm1 cd1 ct1 oc2 kV2 dc2 pm2 cd2 ct2 oc3 kV3 dc3 pm3 cd3 ct3 oc4 kV4 dc4 pm4 cd4 ct4 oc5 kV5 dc5 pm5 cd5 ct5 oc6 kV6 dc6 pm6 cd6 ct6 oc7 kV7 dc7 pm7 cd7 ct7 oc8 kV8 dc8 pm8 cd8 ct8 oc9 kV9 dc9 pm9 cd9 ct9 oc10 kV10 dc10 pm10 cd10 ct10 : Value}
    (a0 : PySem.W.nsIn K mainGlobals "whole" = some (some (.ref f0))) (l0 : K.lookup f0 = some ⟨oc0, od0, .func (PySem.W.fnOf "whole" "whole" (defArgs s_whole) (defBody s_whole) (defScope s_whole) .none kV0 dc0 pm0 an0 cd0 ct0), sl0⟩) (c0 : PySem.W.codeIn K cd0 "whole" = true) (k0 : PySem.W.keepIn K (.ref f0) = true)
    (a1 : PySem.W.nsIn K mainGlobals "_law_cell" = some (some (.ref f1))) (l1 : K.lookup f1 = some ⟨oc1, od1, .func (PySem.W.fnOf "_law_cell" "_law_cell" (defArgs s_law_cell) (defBody s_law_cell) (defScope s_law_cell) .none kV1 dc1 pm1 an1 cd1 ct1), sl1⟩) (c1 : PySem.W.codeIn K cd1 "_law_cell" = true) (k1 : PySem.W.keepIn K (.ref f1) = true)
    (a2 : PySem.W.nsIn K mainGlobals "_law_draws" = some (some (.ref f2))) (l2 : K.lookup f2 = some ⟨oc2, od2, .func (PySem.W.fnOf "_law_draws" "_law_draws" (defArgs s_law_draws) (defBody s_law_draws) (defScope s_law_draws) .none kV2 dc2 pm2 an2 cd2 ct2), sl2⟩) (c2 : PySem.W.codeIn K cd2 "_law_draws" = true) (k2 : PySem.W.keepIn K (.ref f2) = true)
    (a3 : PySem.W.nsIn K mainGlobals "_law_gcd" = some (some (.ref f3))) (l3 : K.lookup f3 = some ⟨oc3, od3, .func (PySem.W.fnOf "_law_gcd" "_law_gcd" (defArgs s_law_gcd) (defBody s_law_gcd) (defScope s_law_gcd) .none kV3 dc3 pm3 an3 cd3 ct3), sl3⟩) (c3 : PySem.W.codeIn K cd3 "_law_gcd" = true) (k3 : PySem.W.keepIn K (.ref f3) = true)
    (a4 : PySem.W.nsIn K mainGlobals "_law_same" = some (some (.ref f4))) (l4 : K.lookup f4 = some ⟨oc4, od4, .func (PySem.W.fnOf "_law_same" "_law_same" (defArgs s_law_same) (defBody s_law_same) (defScope s_law_same) .none kV4 dc4 pm4 an4 cd4 ct4), sl4⟩) (c4 : PySem.W.codeIn K cd4 "_law_same" = true) (k4 : PySem.W.keepIn K (.ref f4) = true)
    (a5 : PySem.W.nsIn K mainGlobals "_law_ratio" = some (some (.ref f5))) (l5 : K.lookup f5 = some ⟨oc5, od5, .func (PySem.W.fnOf "_law_ratio" "_law_ratio" (defArgs s_law_ratio) (defBody s_law_ratio) (defScope s_law_ratio) .none kV5 dc5 pm5 an5 cd5 ct5), sl5⟩) (c5 : PySem.W.codeIn K cd5 "_law_ratio" = true) (k5 : PySem.W.keepIn K (.ref f5) = true)
    (a6 : PySem.W.nsIn K mainGlobals "_law_long" = some (some (.ref f6))) (l6 : K.lookup f6 = some ⟨oc6, od6, .func (PySem.W.fnOf "_law_long" "_law_long" (defArgs s_law_long) (defBody s_law_long) (defScope s_law_long) .none kV6 dc6 pm6 an6 cd6 ct6), sl6⟩) (c6 : PySem.W.codeIn K cd6 "_law_long" = true) (k6 : PySem.W.keepIn K (.ref f6) = true)
    (a7 : PySem.W.nsIn K mainGlobals "_law_number" = some (some (.ref f7))) (l7 : K.lookup f7 = some ⟨oc7, od7, .func (PySem.W.fnOf "_law_number" "_law_number" (defArgs s_law_number) (defBody s_law_number) (defScope s_law_number) .none kV7 dc7 pm7 an7 cd7 ct7), sl7⟩) (c7 : PySem.W.codeIn K cd7 "_law_number" = true) (k7 : PySem.W.keepIn K (.ref f7) = true)
    (a8 : PySem.W.nsIn K mainGlobals "_law_numbers" = some (some (.ref f8))) (l8 : K.lookup f8 = some ⟨oc8, od8, .func (PySem.W.fnOf "_law_numbers" "_law_numbers" (defArgs s_law_numbers) (defBody s_law_numbers) (defScope s_law_numbers) .none kV8 dc8 pm8 an8 cd8 ct8), sl8⟩) (c8 : PySem.W.codeIn K cd8 "_law_numbers" = true) (k8 : PySem.W.keepIn K (.ref f8) = true)
    (a9 : PySem.W.nsIn K mainGlobals "_law_due" = some (some (.ref f9))) (l9 : K.lookup f9 = some ⟨oc9, od9, .func (PySem.W.fnOf "_law_due" "_law_due" (defArgs s_law_due) (defBody s_law_due) (defScope s_law_due) .none kV9 dc9 pm9 an9 cd9 ct9), sl9⟩) (c9 : PySem.W.codeIn K cd9 "_law_due" = true) (k9 : PySem.W.keepIn K (.ref f9) = true)
    (a10 : PySem.W.nsIn K mainGlobals "law" = some (some (.ref f10))) (l10 : K.lookup f10 = some ⟨oc10, od10, .func (PySem.W.fnOf "law" "law" (defArgs s_law) (defBody s_law) (defScope s_law) .none kV10 dc10 pm10 an10 cd10 ct10), sl10⟩) (c10 : PySem.W.codeIn K cd10 "law" = true) (k10 : PySem.W.keepIn K (.ref f10) = true)
    (z0 : PySem.W.nsIn K mainGlobals "len" = some none)
    (z1 : PySem.W.nsIn K mainGlobals "int" = some none)
    (z2 : PySem.W.nsIn K mainGlobals "abs" = some none)
    (z3 : PySem.W.nsIn K mainGlobals "range" = some none)
    (z4 : PySem.W.nsIn K mainGlobals "list" = some none)
    (z5 : PySem.W.nsIn K mainGlobals "bool" = some none)
    (z6 : PySem.W.nsIn K mainGlobals "tuple" = some none)
    (z7 : PySem.W.nsIn K mainGlobals "isinstance" = some none)
    (y0 : PySem.W.nsIn K mainGlobals "lcm" = some (some (.builtin "math.lcm"))) :
    ∃ fd : FuncData, (∀ (s : Shared) (v : Value), BindsTo s fd ⟨[v], []⟩ [("script", v)]) ∧ ∀ base : Heap, K.In base → base.Ns mainGlobals mg → FnOk l.prog w K mg base CX0 5 fa fd ["script"] (spD K P_law) := by
  have gm : Gm mg := ⟨PySem.W.mg_none_of X G z0, PySem.W.mg_none_of X G z1, PySem.W.mg_none_of X G z2, PySem.W.mg_none_of X G z3, PySem.W.mg_none_of X G z4, PySem.W.mg_none_of X G z5, PySem.W.mg_none_of X G z6, PySem.W.mg_none_of X G z7, PySem.W.mg_of X G y0⟩
  have D0 : Df K mg "whole" s_whole ["numbers"] := df_of X G a0 l0 c0 k0 fun _ _ _ _ _ _ us hl => match us, hl with | [_], _ => rfl
  have D1 : Df K mg "_law_cell" s_law_cell ["script", "k"] := df_of X G a1 l1 c1 k1 fun _ _ _ _ _ _ us hl => match us, hl with | [_, _], _ => rfl
  have D2 : Df K mg "_law_draws" s_law_draws ["cell", "sizes"] := df_of X G a2 l2 c2 k2 fun _ _ _ _ _ _ us hl => match us, hl with | [_, _], _ => rfl
  have D3 : Df K mg "_law_gcd" s_law_gcd ["first", "second"] := df_of X G a3 l3 c3 k3 fun _ _ _ _ _ _ us hl => match us, hl with | [_, _], _ => rfl
  have D4 : Df K mg "_law_same" s_law_same ["actual", "due"] := df_of X G a4 l4 c4 k4 fun _ _ _ _ _ _ us hl => match us, hl with | [_, _], _ => rfl
  have D5 : Df K mg "_law_ratio" s_law_ratio ["n", "d"] := df_of X G a5 l5 c5 k5 fun _ _ _ _ _ _ us hl => match us, hl with | [_, _], _ => rfl
  have D6 : Df K mg "_law_long" s_law_long ["drawn", "at"] := df_of X G a6 l6 c6 k6 fun _ _ _ _ _ _ us hl => match us, hl with | [_, _], _ => rfl
  have D7 : Df K mg "_law_number" s_law_number ["cell"] := df_of X G a7 l7 c7 k7 fun _ _ _ _ _ _ us hl => match us, hl with | [_], _ => rfl
  have D8 : Df K mg "_law_numbers" s_law_numbers ["script"] := df_of X G a8 l8 c8 k8 fun _ _ _ _ _ _ us hl => match us, hl with | [_], _ => rfl
  have D9 : Df K mg "_law_due" s_law_due ["numbers"] := df_of X G a9 l9 c9 k9 fun _ _ _ _ _ _ us hl => match us, hl with | [_], _ => rfl
  refine law_end X G hfa a10 l10 c10 k10 _ (fun s v => .of_eq rfl) fun fd base F => ?_
  have G_cell := ok_cell (P := l.prog) (w := w) (base := base) D1 gm
  have G_draws := ok_draws (P := l.prog) (w := w) (base := base) D2 gm
  have G_gcd := ok_gcd (P := l.prog) (w := w) (base := base) D3 gm
  have G_ratio := ok_ratio (P := l.prog) (w := w) (base := base) D5 gm G_gcd
  have G_long := ok_long (P := l.prog) (w := w) (base := base) D6 gm
  have G_number := ok_number (P := l.prog) (w := w) (base := base) D7 gm G_draws G_ratio G_long
  have G_numbers := ok_numbers (P := l.prog) (w := w) (base := base) D8 gm G_cell G_draws G_ratio G_long G_number
  have G_whole := ok_whole (P := l.prog) (w := w) (base := base) D0 gm
  have G_due := ok_due (P := l.prog) (w := w) (base := base) D9 gm G_gcd
  exact ok_law F gm G_numbers G_whole G_due (ok_same (P := l.prog) (w := w) (base := base) D4 gm 3)
end FS
open PySem PySem.W PyProof.Rows
set_option maxHeartbeats 0 in
theorem PySem.Challenge.cw_fairstart_k01_whole_factors_holds : PySem.Challenge.rw_fairstart_k01_whole_factors.Holds := by
  w_on; o_law; k_head; (case hw => w_witness2)
  k_fill
  refine L2.walk_ofK (l := PySem.Challenge.rw_fairstart_k01_whole_factors) (n := 63) (k := 5) (x := "script") (CX := L2.CX0) (sp := fun K => FS.spD K FS.P_law) rfl (by decide) rfl ⟨rfl, by decide, by decide⟩ (fun w h Y => PySem.W.kIn_of Y) ?F (fun _ _ a ns hl _ hS => FS.sp_law hS) (fun _ _ _ _ h => h)
  case F =>
    intro w mg fa h KX G hmg
    refine' FS.all_mk KX G hmg ?a0 ?l0 ?c0 ?k0 ?a1 ?l1 ?c1 ?k1 ?a2 ?l2 ?c2 ?k2 ?a3 ?l3 ?c3 ?k3 ?a4 ?l4 ?c4 ?k4 ?a5 ?l5 ?c5 ?k5 ?a6 ?l6 ?c6 ?k6 ?a7 ?l7 ?c7 ?k7 ?a8 ?l8 ?c8 ?k8 ?a9 ?l9 ?c9 ?k9 ?a10 ?l10 ?c10 ?k10 ?z0 ?z1 ?z2 ?z3 ?z4 ?z5 ?z6 ?z7 ?y0
    (case a0 => k_is); (case l0 => k_is); (case c0 => k_is); (case k0 => k_is); (case a1 => k_is); (case l1 => k_is); (case c1 => k_is); (case k1 => k_is); (case a2 => k_is); (case l2 => k_is); (case c2 => k_is); (case k2 => k_is); (case a3 => k_is); (case l3 => k_is); (case c3 => k_is); (case k3 => k_is); (case a4 => k_is); (case l4 => k_is); (case c4 => k_is); (case k4 => k_is); (case a5 => k_is); (case l5 => k_is); (case c5 => k_is); (case k5 => k_is); (case a6 => k_is); (case l6 => k_is); (case c6 => k_is); (case k6 => k_is); (case a7 => k_is); (case l7 => k_is); (case c7 => k_is); (case k7 => k_is); (case a8 => k_is); (case l8 => k_is); (case c8 => k_is); (case k8 => k_is); (case a9 => k_is); (case l9 => k_is); (case c9 => k_is); (case k9 => k_is); (case a10 => k_is); (case l10 => k_is); (case c10 => k_is); (case k10 => k_is); (case z0 => k_is); (case z1 => k_is); (case z2 => k_is); (case z3 => k_is); (case z4 => k_is); (case z5 => k_is); (case z6 => k_is); (case z7 => k_is); (case y0 => k_is)
