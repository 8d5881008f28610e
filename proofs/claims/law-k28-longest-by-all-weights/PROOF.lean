import PyProof.Rows.All
import Wide.All
import OpenK.AllK
import Wide.FinOn
import KE.KStateDown
import HandS.ForMost
import HandS.Exc
import HandS.TryOnly
import HandS.TryMany
import HandS.Defaults
import HandS.IsInst
import HandS.Wide
import HandS.Star
import HandS.Property
import HandS.ClsMeth
import HandS.Head0
import HandS.Head1
import HandS.Head2
import HandS.HeadEnd
import HandS.HeadHook1
import HandS.HeadHook2
import HandS.TupAny
import HandS.TupMul
import HandS.TupLe
import HandS.Style
import HandS.Deep
import HandS.CallSlots
import HandS.AnyAll
import HandS.Zip
import HandS.Conv
import HandS.ExcOwn
import HandS.MakeKw
import HandS.MakeKwOnly
import PyProof.Rows.ReprR
import PySem.Challenge.RW_checkdigits_k28_longest_by_all_weights
set_option Elab.async false
set_option linter.all false
set_option maxRecDepth 100000
set_option maxHeartbeats 4000000
/-! The P-layer, 1: data D, slots, what represents them; environments; steps. -/
namespace P
open PySem PySem.Spec PyProof.Rows L2

/-! ### data -/
inductive D where
  | non | bl (b : Bool) | int (i : Int) | str (x : Str)
  | tup (ds : List D) | lst (ds : List D)
  | dct (ks vs : List D)
  | ins (c : Str) (ns : List Str) (vs : List D)
  | scr (ns : List Int)
  deriving Inhabited

/-- heaps: all that was is as it was -/
def Ex (H H' : Hp) : Prop := ∀ a o, H a = some o → H' a = some o
theorem Ex.refl (H : Hp) : Ex H H := fun _ _ h => h
theorem Ex.trans {H H1 H2 : Hp} (a : Ex H H1) (b : Ex H1 H2) : Ex H H2 := fun x o h => b x o (a x o h)
theorem Ex.new {H : Hp} {p : Addr} {o : HO} (h : H p = none) : Ex H (upd H p o) := fun a u e => by
  rw [upd_ne (ne_of_none e h)]; exact e
theorem Ex.fresh {H H' : Hp} {p : Addr} (e : Ex H H') (h : H' p = none) : H p = none := by
  cases h1 : H p with
  | none => rfl
  | some o => rw [e p o h1] at h; cases h
theorem ex_rd {H H' : Hp} {a : Addr} {u : HO} (e : Ex H H') (h : Rd H a u) : Rd H' a u := by
  rcases h with h | ⟨o, h⟩
  · exact .inl (e a _ h)
  · exact .inr ⟨o, e a _ h⟩
theorem ex_l {K : PySem.W.Frag} {H H' : Hp} {a : Addr} {xs : List V} (e : Ex H H') (h : SqL K H a xs) : SqL K H' a xs := h.imp (ex_rd e) id
theorem ex_t {K : PySem.W.Frag} {H H' : Hp} {a : Addr} {xs : List V} (e : Ex H H') (h : SqT K H a xs) : SqT K H' a xs := h.imp (ex_rd e) id

/-- without the addresses of S -/
def hide (H : Hp) (S : List Addr) : Hp := fun a => if a ∈ S then none else H a
theorem hide_out {H : Hp} {S : List Addr} {a : Addr} (h : a ∉ S) : hide H S a = H a := by unfold hide; rw [if_neg h]
theorem hide_in {H : Hp} {S : List Addr} {a : Addr} (h : a ∈ S) : hide H S a = none := by unfold hide; rw [if_pos h]
theorem hide_some {H : Hp} {S : List Addr} {a : Addr} {o : HO} (h : hide H S a = some o) : a ∉ S ∧ H a = some o := by
  unfold hide at h
  split at h
  · cases h
  · rename_i n; exact ⟨n, h⟩
theorem hide_ex {H : Hp} {S : List Addr} : Ex (hide H S) H := fun _ _ h => (hide_some h).2
theorem hide_nil {H : Hp} : hide H [] = H := by funext a; exact hide_out (by simp)
theorem hide_mono {H H' : Hp} {S S' : List Addr} (e : Ex H H') (s : ∀ a ∈ S', a ∈ S ∨ H a = none) : Ex (hide H S) (hide H' S') := fun a o h => by
  obtain ⟨n, q⟩ := hide_some h
  rw [hide_out fun z => ?_]
  · exact e a o q
  · rcases s a z with r | r
    · exact n r
    · rw [q] at r; cases r

/-! ### what represents what -/
def keyD : Key → D
  | .inl i => .int i
  | .inr x => .str x
mutual
inductive Rep (K : PySem.W.Frag) (G : Hp) : V → D → Prop
  | non : Rep K G .non .non
  | bl (b : Bool) : Rep K G (.bl b) (.bl b)
  | int (i : Int) : Rep K G (.int i) (.int i)
  | str (x : Str) : Rep K G (.str x) (.str x)
  | tup {a : Addr} {xs : List V} {ds : List D} (h : SqT K G a xs) (r : Reps K G xs ds) : Rep K G (.ref a) (.tup ds)
  | lst {a : Addr} {xs : List V} {ds : List D} (h : G a = some (.lst xs)) (r : Reps K G xs ds) : Rep K G (.ref a) (.lst ds)
  | scr {a : Addr} {ns : List Int} (h : SqL K G a (ns.map V.int)) : Rep K G (.ref a) (.scr ns)
  | dK {a : Addr} {kvs : List (Key × V)} {vs : List D} (h : G a = some (.dK kvs)) (r : Reps K G (kvs.map (·.2)) vs) : Rep K G (.ref a) (.dct (kvs.map fun kv => keyD kv.1) vs)
  | dT {a : Addr} {kvs : List (List Key × V)} {vs : List D} (h : G a = some (.dT kvs)) (r : Reps K G (kvs.map (·.2)) vs) : Rep K G (.ref a) (.dct (kvs.map fun kv => .tup (kv.1.map keyD)) vs)
  | ins {a dx : Addr} {c : Str} {fs : List (Str × V)} {vs : List D} (h : G a = some (.ins (He.ga K c) dx fs)) (r : Reps K G (fs.map (·.2)) vs) : Rep K G (.ref a) (.ins c (fs.map (·.1)) vs)
inductive Reps (K : PySem.W.Frag) (G : Hp) : List V → List D → Prop
  | nil : Reps K G [] []
  | cons {x : V} {d : D} {xs : List V} {ds : List D} (h : Rep K G x d) (r : Reps K G xs ds) : Reps K G (x :: xs) (d :: ds)
end
section
variable {K : PySem.W.Frag} {G G' : Hp}
mutual
theorem Rep.mono (e : Ex G G') : ∀ {v : V} {d : D}, Rep K G v d → Rep K G' v d
  | _, _, .non => .non
  | _, _, .bl b => .bl b
  | _, _, .int i => .int i
  | _, _, .str x => .str x
  | _, _, .tup h r => .tup (ex_t e h) (Reps.mono e r)
  | _, _, .lst h r => .lst (e _ _ h) (Reps.mono e r)
  | _, _, .scr h => .scr (ex_l e h)
  | _, _, .dK h r => .dK (e _ _ h) (Reps.mono e r)
  | _, _, .dT h r => .dT (e _ _ h) (Reps.mono e r)
  | _, _, .ins h r => .ins (e _ _ h) (Reps.mono e r)
theorem Reps.mono (e : Ex G G') : ∀ {xs : List V} {ds : List D}, Reps K G xs ds → Reps K G' xs ds
  | _, _, .nil => .nil
  | _, _, .cons h r => .cons (Rep.mono e h) (Reps.mono e r)
end
theorem Reps.length : ∀ {xs : List V} {ds : List D}, Reps K G xs ds → xs.length = ds.length
  | _, _, .nil => rfl
  | _, _, .cons _ r => congrArg (· + 1) (Reps.length r)
theorem Reps.get : ∀ {xs : List V} {ds : List D} {i : Nat} {d : D}, Reps K G xs ds → ds[i]? = some d → ∃ x, xs[i]? = some x ∧ Rep K G x d
  | _, _, _, _, .nil, e => by simp at e
  | _, _, 0, _, .cons h _, e => by simp at e; subst e; exact ⟨_, rfl, h⟩
  | _, _, i + 1, _, .cons _ r, e => by
    obtain ⟨x, h1, h2⟩ := Reps.get (i := i) r (by simpa using e)
    exact ⟨x, by simpa using h1, h2⟩
theorem Reps.get' : ∀ {xs : List V} {ds : List D} {i : Nat} {x : V}, Reps K G xs ds → xs[i]? = some x → ∃ d, ds[i]? = some d ∧ Rep K G x d
  | _, _, _, _, .nil, e => by simp at e
  | _, _, 0, _, .cons h _, e => by simp at e; subst e; exact ⟨_, rfl, h⟩
  | _, _, i + 1, _, .cons _ r, e => by
    obtain ⟨x, h1, h2⟩ := Reps.get' (i := i) r (by simpa using e)
    exact ⟨x, by simpa using h1, h2⟩
theorem Reps.append : ∀ {xs ys : List V} {ds es : List D}, Reps K G xs ds → Reps K G ys es → Reps K G (xs ++ ys) (ds ++ es)
  | _, _, _, _, .nil, s => s
  | _, _, _, _, .cons h r, s => .cons h (Reps.append r s)
theorem Reps.take : ∀ {xs : List V} {ds : List D} (n : Nat), Reps K G xs ds → Reps K G (xs.take n) (ds.take n)
  | _, _, 0, _ => .nil
  | _, _, _ + 1, .nil => .nil
  | _, _, n + 1, .cons h r => .cons h (Reps.take n r)
theorem Reps.drop : ∀ {xs : List V} {ds : List D} (n : Nat), Reps K G xs ds → Reps K G (xs.drop n) (ds.drop n)
  | _, _, 0, r => r
  | _, _, _ + 1, .nil => .nil
  | _, _, n + 1, .cons _ r => Reps.drop n r
theorem Reps.reverse : ∀ {xs : List V} {ds : List D}, Reps K G xs ds → Reps K G xs.reverse ds.reverse
  | _, _, .nil => .nil
  | _, _, .cons h r => by rw [List.reverse_cons, List.reverse_cons]; exact Reps.append (Reps.reverse r) (.cons h .nil)
theorem Reps.set : ∀ {xs : List V} {ds : List D} {x : V} {d : D} (i : Nat), Reps K G xs ds → Rep K G x d → Reps K G (xs.set i x) (ds.set i d)
  | _, _, _, _, _, .nil, _ => .nil
  | _, _, _, _, 0, .cons _ r, q => .cons q r
  | _, _, _, _, i + 1, .cons h r, q => .cons h (Reps.set i r q)
theorem Reps.split : ∀ {xs : List V} {ds es : List D}, Reps K G xs (ds ++ es) → ∃ ys zs, xs = ys ++ zs ∧ Reps K G ys ds ∧ Reps K G zs es
  | xs, [], es, h => ⟨[], xs, rfl, .nil, h⟩
  | _, d :: ds, es, h => by
    cases h with
    | cons h r =>
      obtain ⟨ys, zs, e, h1, h2⟩ := Reps.split r
      exact ⟨_ :: ys, zs, by rw [e]; rfl, .cons h h1, h2⟩
/-- ints, texts -/
theorem Reps.ints : ∀ {xs : List V} {ns : List Int}, Reps K G xs (ns.map D.int) → xs = ns.map V.int
  | _, [], .nil => rfl
  | _, _ :: _, .cons h r => by cases h; rw [Reps.ints r]; rfl
theorem reps_ints : ∀ (ns : List Int), Reps K G (ns.map V.int) (ns.map D.int)
  | [] => .nil
  | n :: r => .cons (.int n) (reps_ints r)
end

/-! ### slots -/
inductive Slot where
  | unb
  | val (d : D)
  | ownL (ss : List Slot)
  | ownD (ks vs : List D)
  | ownI (c : Str) (ns : List Str) (ss : List Slot)
  deriving Inhabited
mutual
def Slot.fz : Slot → Option D
  | .unb => none
  | .val d => some d
  | .ownL ss => (fzs ss).map .lst
  | .ownD ks vs => some (.dct ks vs)
  | .ownI c ns ss => (fzs ss).map (.ins c ns)
def fzs : List Slot → Option (List D)
  | [] => some []
  | s :: r => match s.fz, fzs r with
    | some d, some ds => some (d :: ds)
    | _, _ => none
end
mutual
/-- v bears the slot s at H: what it owns is fp, all else lies in G -/
inductive RelS (K : PySem.W.Frag) (G H : Hp) : List Addr → V → Slot → Prop
  | val {v : V} {d : D} (h : Rep K G v d) : RelS K G H [] v (.val d)
  | ownL {a : Addr} {xs : List V} {ss : List Slot} {fp : List Addr} (h : H a = some (.lst xs)) (r : RelSs K G H fp xs ss) : RelS K G H (a :: fp) (.ref a) (.ownL ss)
  | ownK {a : Addr} {kvs : List (Key × V)} {vs : List D} (h : H a = some (.dK kvs)) (r : Reps K G (kvs.map (·.2)) vs) : RelS K G H [a] (.ref a) (.ownD (kvs.map fun kv => keyD kv.1) vs)
  | ownT {a : Addr} {kvs : List (List Key × V)} {vs : List D} (h : H a = some (.dT kvs)) (r : Reps K G (kvs.map (·.2)) vs) : RelS K G H [a] (.ref a) (.ownD (kvs.map fun kv => .tup (kv.1.map keyD)) vs)
  | ownI {a dx : Addr} {c : Str} {fs : List (Str × V)} {ss : List Slot} {fp : List Addr} (h : H a = some (.ins (He.ga K c) dx fs)) (r : RelSs K G H fp (fs.map (·.2)) ss) : RelS K G H (a :: fp) (.ref a) (.ownI c (fs.map (·.1)) ss)
inductive RelSs (K : PySem.W.Frag) (G H : Hp) : List Addr → List V → List Slot → Prop
  | nil : RelSs K G H [] [] []
  | cons {f g : List Addr} {x : V} {s : Slot} {xs : List V} {ss : List Slot} (h : RelS K G H f x s) (r : RelSs K G H g xs ss) : RelSs K G H (f ++ g) (x :: xs) (s :: ss)
end
section
variable {K : PySem.W.Frag} {G G' H H' : Hp}
mutual
theorem RelS.mono (e : Ex G G') : ∀ {fp : List Addr} {v : V} {s : Slot}, RelS K G H fp v s → (∀ a ∈ fp, H' a = H a) → RelS K G' H' fp v s
  | _, _, _, .val h, _ => .val (h.mono e)
  | _, _, _, .ownL h r, k => .ownL ((k _ (by simp)).trans h) (RelSs.mono e r fun a ha => k a (by simp [ha]))
  | _, _, _, .ownK h r, k => .ownK ((k _ (by simp)).trans h) (r.mono e)
  | _, _, _, .ownT h r, k => .ownT ((k _ (by simp)).trans h) (r.mono e)
  | _, _, _, .ownI h r, k => .ownI ((k _ (by simp)).trans h) (RelSs.mono e r fun a ha => k a (by simp [ha]))
theorem RelSs.mono (e : Ex G G') : ∀ {fp : List Addr} {xs : List V} {ss : List Slot}, RelSs K G H fp xs ss → (∀ a ∈ fp, H' a = H a) → RelSs K G' H' fp xs ss
  | _, _, _, .nil, _ => .nil
  | _, _, _, .cons h r, k => .cons (RelS.mono e h fun a ha => k a (by simp [ha])) (RelSs.mono e r fun a ha => k a (by simp [ha]))
end
mutual
/-- what is owned stands there -/
theorem RelS.there : ∀ {fp : List Addr} {v : V} {s : Slot}, RelS K G H fp v s → ∀ a ∈ fp, H a ≠ none
  | _, _, _, .val h, _, q => by simp at q
  | _, _, _, .ownL h r, a, q => by
    rcases List.mem_cons.mp q with rfl | q
    · rw [h]; simp
    · exact RelSs.there r a q
  | _, _, _, .ownK h r, a, q => by
    rcases List.mem_cons.mp q with rfl | q
    · rw [h]; simp
    · simp at q
  | _, _, _, .ownT h r, a, q => by
    rcases List.mem_cons.mp q with rfl | q
    · rw [h]; simp
    · simp at q
  | _, _, _, .ownI h r, a, q => by
    rcases List.mem_cons.mp q with rfl | q
    · rw [h]; simp
    · exact RelSs.there r a q
theorem RelSs.there : ∀ {fp : List Addr} {xs : List V} {ss : List Slot}, RelSs K G H fp xs ss → ∀ a ∈ fp, H a ≠ none
  | _, _, _, .nil, _, q => by simp at q
  | _, _, _, .cons h r, a, q => by
    rcases List.mem_append.mp q with q | q
    · exact RelS.there h a q
    · exact RelSs.there r a q
end
mutual
/-- frozen: G' holds all of it -/
theorem RelS.fz (e : Ex G G') : ∀ {fp : List Addr} {v : V} {s : Slot} {d : D}, RelS K G H fp v s → (∀ a ∈ fp, G' a = H a) → s.fz = some d → Rep K G' v d
  | _, _, .val d', d, .val h, _, q => by simp only [Slot.fz, Option.some.injEq] at q; subst q; exact h.mono e
  | _, _, .ownL ss, d, .ownL h r, k, q => by
    simp only [Slot.fz, Option.map_eq_some_iff] at q
    obtain ⟨ds, q1, rfl⟩ := q
    exact .lst ((k _ (by simp)).trans h) (RelSs.fz e r (fun a ha => k a (by simp [ha])) q1)
  | _, _, .ownD _ _, d, .ownK h r, k, q => by
    simp only [Slot.fz, Option.some.injEq] at q; subst q
    exact .dK ((k _ (by simp)).trans h) (r.mono e)
  | _, _, .ownD _ _, d, .ownT h r, k, q => by
    simp only [Slot.fz, Option.some.injEq] at q; subst q
    exact .dT ((k _ (by simp)).trans h) (r.mono e)
  | _, _, _, d, .ownI h r, k, q => by
    simp only [Slot.fz, Option.map_eq_some_iff] at q
    obtain ⟨ds, q1, rfl⟩ := q
    exact .ins ((k _ (by simp)).trans h) (RelSs.fz e r (fun a ha => k a (by simp [ha])) q1)
theorem RelSs.fz (e : Ex G G') : ∀ {fp : List Addr} {xs : List V} {ss : List Slot} {ds : List D}, RelSs K G H fp xs ss → (∀ a ∈ fp, G' a = H a) → fzs ss = some ds → Reps K G' xs ds
  | _, _, [], ds, .nil, _, q => by simp only [fzs, Option.some.injEq] at q; subst q; exact .nil
  | _, _, s :: ss, ds, .cons h r, k, q => by
    simp only [fzs] at q
    split at q
    · rename_i d ds' q1 q2
      simp only [Option.some.injEq] at q; subst q
      exact .cons (RelS.fz e h (fun a ha => k a (by simp [ha])) q1) (RelSs.fz e r (fun a ha => k a (by simp [ha])) q2)
    · cases q
end
theorem RelSs.vals : ∀ {ds : List D} {fp : List Addr} {xs : List V}, RelSs K G H fp xs (ds.map .val) → fp = [] ∧ Reps K G xs ds
  | [], _, _, .nil => ⟨rfl, .nil⟩
  | _ :: _, _, _, .cons h r => by
    obtain ⟨e, q⟩ := RelSs.vals r
    cases h with
    | val h => exact ⟨by rw [e]; rfl, .cons h q⟩
theorem relSs_vals : ∀ {ds : List D} {xs : List V}, Reps K G xs ds → RelSs K G H [] xs (ds.map .val)
  | [], _, .nil => .nil
  | _ :: _, _, .cons h r => .cons (.val h) (relSs_vals r)
theorem RelSs.length : ∀ {fp : List Addr} {xs : List V} {ss : List Slot}, RelSs K G H fp xs ss → xs.length = ss.length
  | _, _, _, .nil => rfl
  | _, _, _, .cons _ r => congrArg (· + 1) (RelSs.length r)
end
theorem fzs_vals : ∀ ds : List D, fzs (ds.map .val) = some ds
  | [] => rfl
  | d :: ds => by simp only [List.map_cons, fzs, Slot.fz, fzs_vals ds]

/-! ### environments -/
abbrev Env := List Slot
inductive RelE (K : PySem.W.Frag) (G H : Hp) : List Addr → L2.St → Env → Prop
  | nil : RelE K G H [] [] []
  | unb {g : List Addr} {o : Option V} {σ : L2.St} {ρ : Env} (r : RelE K G H g σ ρ) : RelE K G H g (o :: σ) (.unb :: ρ)
  | cons {f g : List Addr} {v : V} {s : Slot} {σ : L2.St} {ρ : Env} (h : RelS K G H f v s) (r : RelE K G H g σ ρ) : RelE K G H (f ++ g) (some v :: σ) (s :: ρ)
section
variable {K : PySem.W.Frag} {G G' H H' : Hp}
theorem RelE.mono (e : Ex G G') : ∀ {W : List Addr} {σ : L2.St} {ρ : Env}, RelE K G H W σ ρ → (∀ a ∈ W, H' a = H a) → RelE K G' H' W σ ρ
  | _, _, _, .nil, _ => .nil
  | _, _, _, .unb r, k => .unb (r.mono e k)
  | _, _, _, .cons h r, k => .cons (h.mono e fun a ha => k a (by simp [ha])) (r.mono e fun a ha => k a (by simp [ha]))
theorem RelE.there : ∀ {W : List Addr} {σ : L2.St} {ρ : Env}, RelE K G H W σ ρ → ∀ a ∈ W, H a ≠ none
  | _, _, _, .nil, _, q => by simp at q
  | _, _, _, .unb r, a, q => r.there a q
  | _, _, _, .cons h r, a, q => (List.mem_append.mp q).elim (h.there a) (r.there a)
theorem RelE.length : ∀ {W : List Addr} {σ : L2.St} {ρ : Env}, RelE K G H W σ ρ → σ.length = ρ.length
  | _, _, _, .nil => rfl
  | _, _, _, .unb r => congrArg (· + 1) r.length
  | _, _, _, .cons _ r => congrArg (· + 1) r.length
/-- the slot at i -/
theorem RelE.get : ∀ {W : List Addr} {σ : L2.St} {ρ : Env} {i : Nat} {s : Slot}, RelE K G H W σ ρ → ρ[i]? = some s → s ≠ .unb →
    ∃ (v : V) (A f B : List Addr), σ[i]? = some (some v) ∧ W = A ++ f ++ B ∧ RelS K G H f v s
  | _, _, _, _, _, .nil, e, _ => by simp at e
  | _, _, _, 0, _, .unb r, e, n => by simp at e; exact absurd e.symm n
  | _, _, _, 0, _, .cons (f := f) (g := g) h r, e, _ => by simp at e; subst e; exact ⟨_, [], f, g, rfl, rfl, h⟩
  | _, _, _, i + 1, _, .unb r, e, n => by
    obtain ⟨v, A, f, B, h1, h2, h3⟩ := r.get (i := i) (by simpa using e) n
    exact ⟨v, A, f, B, by simpa using h1, h2, h3⟩
  | _, _, _, i + 1, _, .cons (f := g) h r, e, n => by
    obtain ⟨v, A, f, B, h1, h2, h3⟩ := r.get (i := i) (by simpa using e) n
    exact ⟨v, g ++ A, f, B, by simpa using h1, by rw [h2]; simp, h3⟩
/-- the slot at i replaced: what it owned is given up, what the new one owns (f) is put in its place -/
theorem RelE.set : ∀ {W : List Addr} {σ : L2.St} {ρ : Env} (i : Nat) {v : V} {s : Slot} {f : List Addr}, RelE K G H W σ ρ → RelS K G H f v s → i < ρ.length →
    ∃ A B C : List Addr, W = A ++ B ++ C ∧ RelE K G H (A ++ f ++ C) (σ.set i (some v)) (ρ.set i s)
  | _, _, _, _, _, _, _, .nil, _, l => by simp at l
  | _, _, _, 0, _, _, f, .unb (g := g) r, q, _ => ⟨[], [], g, rfl, by simpa using RelE.cons q r⟩
  | _, _, _, 0, _, _, f, .cons (f := f0) (g := g) h r, q, _ => ⟨[], f0, g, rfl, by simpa using RelE.cons q r⟩
  | _, _, _, i + 1, _, _, f, .unb r, q, l => by
    obtain ⟨A, B, C, h1, h2⟩ := r.set i q (by simpa using l)
    exact ⟨A, B, C, h1, .unb h2⟩
  | _, _, _, i + 1, _, _, f, .cons (f := f0) h r, q, l => by
    obtain ⟨A, B, C, h1, h2⟩ := r.set i q (by simpa using l)
    exact ⟨f0 ++ A, B, C, by rw [h1]; simp, by simpa using RelE.cons h h2⟩
/-- the slot at i forgotten -/
theorem RelE.drop : ∀ {W : List Addr} {σ : L2.St} {ρ : Env} (i : Nat) (o : Option V), RelE K G H W σ ρ →
    ∃ A B C : List Addr, W = A ++ B ++ C ∧ RelE K G H (A ++ C) (σ.set i o) (ρ.set i .unb)
  | _, _, _, _, _, .nil => ⟨[], [], [], rfl, .nil⟩
  | _, _, _, 0, _, .unb (g := g) r => ⟨[], [], g, rfl, .unb r⟩
  | _, _, _, 0, _, .cons (f := f0) (g := g) h r => ⟨[], f0, g, rfl, .unb r⟩
  | _, _, _, i + 1, o, .unb r => by
    obtain ⟨A, B, C, h1, h2⟩ := r.drop i o
    exact ⟨A, B, C, h1, .unb h2⟩
  | _, _, _, i + 1, o, .cons (f := f0) h r => by
    obtain ⟨A, B, C, h1, h2⟩ := r.drop i o
    exact ⟨f0 ++ A, B, C, by rw [h1]; simp, by simpa using RelE.cons h h2⟩
end

/-- the state: the environment ρ is borne by σ and H; W: what it owns; L: what is locked (others own it) -/
structure Rl (K : PySem.W.Frag) (L W : List Addr) (ρ : Env) (σ : L2.St) (H : Hp) : Prop where
  rel : RelE K (hide H (W ++ L)) H W σ ρ
  nd : W.Nodup
  dj : ∀ a ∈ L, a ∉ W
  lk : ∀ a ∈ L, H a ≠ none
/-- a step: what is not owned stays, new owned things are new or were owned, the locked stays -/
structure Stp (L W : List Addr) (H : Hp) (W' : List Addr) (H' : Hp) : Prop where
  ex : Ex (hide H (W ++ L)) (hide H' (W' ++ L))
  new : ∀ a ∈ W', a ∈ W ∨ H a = none
  lk : ∀ a ∈ L, H' a = H a
section
variable {K : PySem.W.Frag} {L W W1 W2 : List Addr} {ρ : Env} {σ : L2.St} {H H1 H2 : Hp}
theorem Stp.refl : Stp L W H W H := ⟨Ex.refl _, fun _ h => .inl h, fun _ _ => rfl⟩
theorem Rl.alloc (r : Rl K L W ρ σ H) : ∀ a ∈ W ++ L, H a ≠ none := fun a h => (List.mem_append.mp h).elim (r.rel.there a) (r.lk a)
/-- only new things -/
theorem Stp.of_ex (al : ∀ a ∈ W ++ L, H a ≠ none) (e : Ex H H1) : Stp L W H W H1 := ⟨hide_mono e fun a h => .inl h, fun _ h => .inl h, fun a h => by
  cases q : H a with
  | none => exact absurd q (al a (by simp [h]))
  | some o => exact e a o q⟩
theorem Rl.ex (r : Rl K L W ρ σ H) (e : Ex H H1) : Rl K L W ρ σ H1 := by
  have k : ∀ a ∈ W ++ L, H1 a = H a := fun a h => by
    cases q : H a with
    | none => exact absurd q (r.alloc a h)
    | some o => exact e a o q
  exact ⟨r.rel.mono (hide_mono e fun a h => .inl h) fun a h => k a (by simp [h]), r.nd, r.dj, fun a h => by rw [k a (by simp [h])]; exact r.lk a h⟩
theorem Rl.stp (r : Rl K L W ρ σ H) (e : Ex H H1) : Stp L W H W H1 := .of_ex r.alloc e
theorem Stp.trans (a : Stp L W H W1 H1) (b : Stp L W1 H1 W2 H2) : Stp L W H W2 H2 := by
  refine ⟨a.ex.trans b.ex, fun x hx => ?_, fun x hx => (b.lk x hx).trans (a.lk x hx)⟩
  rcases b.new x hx with h | h
  · exact a.new x h
  · cases q : H x with
    | none => exact .inr rfl
    | some o =>
      by_cases m : x ∈ W ++ L
      · rcases List.mem_append.mp m with m | m
        · exact .inl m
        · have := a.lk x m
          rw [h, q] at this; cases this
      · have := a.ex x o (by rw [hide_out m]; exact q)
        rw [(hide_some this).2] at h; cases h
/-- what was represented still is -/
theorem Stp.rep (a : Stp L W H W1 H1) {v : V} {d : D} (h : Rep K (hide H (W ++ L)) v d) : Rep K (hide H1 (W1 ++ L)) v d := h.mono a.ex
theorem Stp.reps (a : Stp L W H W1 H1) {v : List V} {d : List D} (h : Reps K (hide H (W ++ L)) v d) : Reps K (hide H1 (W1 ++ L)) v d := h.mono a.ex
/-- less is owned: what is given up is frozen -/
theorem Rl.less (r : Rl K L W ρ σ H) {A B C : List Addr} {ρ' : Env} {σ' : L2.St} (e : W = A ++ B ++ C) (h : RelE K (hide H (W ++ L)) H (A ++ C) σ' ρ') : Rl K L (A ++ C) ρ' σ' H ∧ Stp L W H (A ++ C) H := by
  subst e
  have sub : ∀ a ∈ A ++ C, a ∈ A ++ B ++ C := fun a h => by simp only [List.mem_append] at h ⊢; rcases h with h | h <;> simp [h]
  have nd : (A ++ C).Nodup := by
    have := r.nd
    rw [List.append_assoc] at this
    obtain ⟨h1, h2, h3⟩ := List.nodup_append.mp this
    obtain ⟨_, h4, _⟩ := List.nodup_append.mp h2
    exact List.nodup_append.mpr ⟨h1, h4, fun a ha b hb => h3 a ha b (by simp [hb])⟩
  have ex : Ex (hide H ((A ++ B ++ C) ++ L)) (hide H ((A ++ C) ++ L)) := hide_mono (Ex.refl _) fun a h => by
    simp only [List.mem_append] at h ⊢
    rcases h with (h | h) | h <;> simp [h]
  exact ⟨⟨h.mono ex fun _ _ => rfl, nd, fun a ha q => r.dj a ha (sub a q), r.lk⟩, ⟨ex, fun a h => .inl (sub a h), fun _ _ => rfl⟩⟩
end
end P
/-! The P-layer, 2: results, judgements, the core rules. -/
namespace P
open PySem PySem.Spec PyProof.Rows L2

/-! ### results -/
structure Err where
  cls : Str
  ns : List Str
  vs : List D
inductive Res (α : Type) where
  | ok (a : α) (ρ : Env)
  | er (e : Err) (ρ : Env)
  | stuck
abbrev M (α : Type) := Env → Res α
@[simp] def Res.bd {α β : Type} (r : Res α) (k : α → Env → Res β) : Res β := match r with
  | .ok a ρ => k a ρ
  | .er e ρ => .er e ρ
  | .stuck => .stuck
@[simp] def Res.map {α β : Type} (f : α → β) (r : Res α) : Res β := match r with
  | .ok a ρ => .ok (f a) ρ
  | .er e ρ => .er e ρ
  | .stuck => .stuck
@[simp] def ofO {α : Type} (o : Option α) : M α := fun ρ => match o with
  | some a => .ok a ρ
  | none => .stuck
@[simp] def vl (m : M D) : M Slot := fun ρ => (m ρ).map Slot.val
inductive Out where
  | nx (ρ : Env)
  | rt (s : Slot) (ρ : Env)
  | bk (ρ : Env)
  | ct (ρ : Env)
  | er (e : Err) (ρ : Env)
  | stuck
abbrev S := Env → Out

/-- an exception as it lies -/
structure ErrRep (K : PySem.W.Frag) (G : Hp) (c : Value) (dd : Option Addr) (e : Err) : Prop where
  cls : c = .ref (He.ga K e.cls)
  fs : (e.ns = [] ∧ dd = none) ∨ ∃ dx vs, dd = some dx ∧ G dx = some (.xd vs) ∧ vs.map (·.1) = e.ns ∧ Reps K G (vs.map (·.2)) e.vs
theorem ErrRep.mono {K : PySem.W.Frag} {G G' : Hp} {c : Value} {dd : Option Addr} {e : Err} (x : Ex G G') (h : ErrRep K G c dd e) : ErrRep K G' c dd e :=
  ⟨h.cls, h.fs.imp id fun ⟨dx, vs, h1, h2, h3, h4⟩ => ⟨dx, vs, h1, x _ _ h2, h3, h4.mono x⟩⟩

section
variable (K : PySem.W.Frag) (Wx : WX)
def Post (σ : L2.St) (L W : List Addr) (H : Hp) (Q : VK) : Res Slot → Prop
  | .ok s ρ' => ∀ v W' H', Stp L W H W' H' → Rl K L W' (s :: ρ') (some v :: σ) H' → Q v H'
  | .er e ρ' => ∀ c dd W' H', Stp L W H W' H' → Rl K L W' ρ' σ H' → ErrRep K (hide H' (W' ++ L)) c dd e → Wx c dd σ H'
  | .stuck => False
def tE (m : M Slot) : TE := fun σ H Q => ∃ ρ L W, Rl K L W ρ σ H ∧ Post K Wx σ L W H Q (m ρ)
def PostT (σ : L2.St) (L W : List Addr) (H : Hp) (Q : Bool → Hp → Prop) : Res Bool → Prop
  | .ok b ρ' => ∀ W' H', Stp L W H W' H' → Rl K L W' ρ' σ H' → Q b H'
  | .er e ρ' => ∀ c dd W' H', Stp L W H W' H' → Rl K L W' ρ' σ H' → ErrRep K (hide H' (W' ++ L)) c dd e → Wx c dd σ H'
  | .stuck => False
def tB' (m : M Bool) : TT := fun σ H Q => ∃ ρ L W, Rl K L W ρ σ H ∧ PostT K Wx σ L W H Q (m ρ)
def PostA (σ : L2.St) (L W : List Addr) (H : Hp) (Q : List V → Hp → Prop) : Res (List D) → Prop
  | .ok ds ρ' => ∀ vs W' H', Stp L W H W' H' → Rl K L W' ρ' σ H' → Reps K (hide H' (W' ++ L)) vs ds → Q vs H'
  | .er e ρ' => ∀ c dd W' H', Stp L W H W' H' → Rl K L W' ρ' σ H' → ErrRep K (hide H' (W' ++ L)) c dd e → Wx c dd σ H'
  | .stuck => False
def tA (m : M (List D)) : TA := fun σ H Q => ∃ ρ L W, Rl K L W ρ σ H ∧ PostA K Wx σ L W H Q (m ρ)
/-- the slots J hold what they held -/
def Ag (J : List Nat) (σ σ' : L2.St) : Prop := σ'.length = σ.length ∧ ∀ j ∈ J, σ'[j]? = σ[j]?
def PostS (J : List Nat) (σ : L2.St) (L W : List Addr) (H : Hp) (E : Ends) : Out → Prop
  | .nx ρ' => ∀ σ' W' H', Ag J σ σ' → Stp L W H W' H' → Rl K L W' ρ' σ' H' → E.nx σ' H'
  | .bk ρ' => ∀ σ' W' H', Ag J σ σ' → Stp L W H W' H' → Rl K L W' ρ' σ' H' → E.bk σ' H'
  | .ct ρ' => ∀ σ' W' H', Ag J σ σ' → Stp L W H W' H' → Rl K L W' ρ' σ' H' → E.ct σ' H'
  | .rt s ρ' => ∀ v σ' W' H', Ag J σ σ' → Stp L W H W' H' → Rl K L W' (s :: ρ') (some v :: σ') H' → E.rt v H'
  | .er e ρ' => ∀ c dd σ' W' H', Ag J σ σ' → Stp L W H W' H' → Rl K L W' ρ' σ' H' → ErrRep K (hide H' (W' ++ L)) c dd e → Wx c dd σ' H'
  | .stuck => False
def tS (J : List Nat) (m : S) : TS := fun E σ H => ∃ ρ L W, Rl K L W ρ σ H ∧ PostS K Wx J σ L W H E (m ρ)
end
theorem Ag.refl {J : List Nat} {σ : L2.St} : Ag J σ σ := ⟨rfl, fun _ _ => rfl⟩
theorem Ag.trans {J : List Nat} {σ σ1 σ2 : L2.St} (a : Ag J σ σ1) (b : Ag J σ1 σ2) : Ag J σ σ2 := ⟨b.1.trans a.1, fun j h => (b.2 j h).trans (a.2 j h)⟩
section
variable {K : PySem.W.Frag} {Wx : WX} {σ : L2.St} {L W W1 : List Addr} {H H1 : Hp}
theorem Post.step {Q : VK} (a : Stp L W H W1 H1) : ∀ {r : Res Slot}, Post K Wx σ L W H Q r → Post K Wx σ L W1 H1 Q r
  | .ok _ _, h => fun v W' H' st rl => h v W' H' (a.trans st) rl
  | .er _ _, h => fun c dd W' H' st rl er => h c dd W' H' (a.trans st) rl er
  | .stuck, h => h
theorem PostT.step {Q : Bool → Hp → Prop} (a : Stp L W H W1 H1) : ∀ {r : Res Bool}, PostT K Wx σ L W H Q r → PostT K Wx σ L W1 H1 Q r
  | .ok _ _, h => fun W' H' st rl => h W' H' (a.trans st) rl
  | .er _ _, h => fun c dd W' H' st rl er => h c dd W' H' (a.trans st) rl er
  | .stuck, h => h
theorem PostA.step {Q : List V → Hp → Prop} (a : Stp L W H W1 H1) : ∀ {r : Res (List D)}, PostA K Wx σ L W H Q r → PostA K Wx σ L W1 H1 Q r
  | .ok _ _, h => fun v W' H' st rl => h v W' H' (a.trans st) rl
  | .er _ _, h => fun c dd W' H' st rl er => h c dd W' H' (a.trans st) rl er
  | .stuck, h => h
theorem PostS.step {J : List Nat} {σ1 : L2.St} {E : Ends} (g : Ag J σ σ1) (a : Stp L W H W1 H1) : ∀ {r : Out}, PostS K Wx J σ L W H E r → PostS K Wx J σ1 L W1 H1 E r
  | .nx _, h => fun σ' W' H' ag st rl => h σ' W' H' (g.trans ag) (a.trans st) rl
  | .bk _, h => fun σ' W' H' ag st rl => h σ' W' H' (g.trans ag) (a.trans st) rl
  | .ct _, h => fun σ' W' H' ag st rl => h σ' W' H' (g.trans ag) (a.trans st) rl
  | .rt _ _, h => fun v σ' W' H' ag st rl => h v σ' W' H' (g.trans ag) (a.trans st) rl
  | .er _ _, h => fun c dd σ' W' H' ag st rl er => h c dd σ' W' H' (g.trans ag) (a.trans st) rl er
  | .stuck, h => h
theorem Rl.pop {ρ : Env} {v : V} {d : D} (r : Rl K L W (.val d :: ρ) (some v :: σ) H) : Rl K L W ρ σ H ∧ Rep K (hide H (W ++ L)) v d := by
  obtain ⟨rel, nd, dj, lk⟩ := r
  cases rel with
  | cons q r =>
    cases q with
    | val q => exact ⟨⟨r, nd, dj, lk⟩, q⟩
/-- behind an expression -/
theorem Post.val {r : Res D} {P : V → Hp → Prop} (h : match r with
      | .ok d ρ' => ∀ v W' H', Stp L W H W' H' → Rl K L W' ρ' σ H' → Rep K (hide H' (W' ++ L)) v d → P v H'
      | .er e ρ' => ∀ c dd W' H', Stp L W H W' H' → Rl K L W' ρ' σ H' → ErrRep K (hide H' (W' ++ L)) c dd e → Wx c dd σ H'
      | .stuck => False) : Post K Wx σ L W H P (r.map Slot.val) := by
  cases r with
  | stuck => exact h
  | er e ρ' => exact h
  | ok d ρ' =>
    intro v W' H' st rl
    exact h v W' H' st rl.pop.1 rl.pop.2
theorem Rl.push {ρ : Env} {v : V} {d : D} (r : Rl K L W ρ σ H) (q : Rep K (hide H (W ++ L)) v d) : Rl K L W (.val d :: ρ) (some v :: σ) H :=
  ⟨.cons (f := []) (.val q) r.rel, r.nd, r.dj, r.lk⟩
/-- a value that is had by only new things -/
theorem Post.here {Q : VK} {ρ : Env} {d : D} {v : V} (h : Post K Wx σ L W H Q (.ok (.val d) ρ)) (r : Rl K L W ρ σ H) (e : Ex H H1) (q : Rep K (hide H1 (W ++ L)) v d) : Q v H1 :=
  h v W H1 (r.stp e) ((r.ex e).push q)
/-- a value that is there, not changing the heap -/
theorem bdK {α β : Type} (r : Res α) (k : α → Env → Res β) : r.bd k = match r with
  | .ok a ρ => k a ρ
  | .er e ρ => .er e ρ
  | .stuck => .stuck := rfl
end

/-! ### judgements -/
section
variable (X : Cx) (Wx : WX)
def PX (e : Expr) (m : M Slot) : Prop := PE X e (tE X.K Wx m)
def PD (e : Expr) (m : M D) : Prop := PE X e (tE X.K Wx (vl m))
def PB (e : Expr) (m : M Bool) : Prop := PT X e (tB' X.K Wx m)
def PBW (e : Expr) (m : M Bool) : Prop := PW X e (tB' X.K Wx m)
def PAs (es : List Expr) (m : M (List D)) : Prop := PA X es (tA X.K Wx m)
variable (J : List Nat)
def PSt (st : Stmt) (m : S) : Prop := PS X st (tS X.K Wx J m)
def PSL (st : List Stmt) (m : S) : Prop := PSs X st (tS X.K Wx J m)
end
theorem PE_imp {X : Cx} {e : Expr} {t t' : TE} (h : PE X e t) (i : ∀ σ H Q, t' σ H Q → t σ H Q) : PE X e t' := ⟨fun pins s σ H Q I q => h.run pins s σ H Q I (i σ H Q q)⟩
theorem PT_imp {X : Cx} {e : Expr} {t t' : TT} (h : PT X e t) (i : ∀ σ H Q, t' σ H Q → t σ H Q) : PT X e t' := ⟨fun pins s σ H Q I q => h.run pins s σ H Q I (i σ H Q q)⟩
theorem PW_imp {X : Cx} {e : Expr} {t t' : TT} (h : PW X e t) (i : ∀ σ H Q, t' σ H Q → t σ H Q) : PW X e t' := ⟨fun w pins s σ H Q I q => h.run w pins s σ H Q I (i σ H Q q)⟩
theorem PA_imp {X : Cx} {e : List Expr} {t t' : L2.TA} (h : PA X e t) (i : ∀ σ H Q, t' σ H Q → t σ H Q) : PA X e t' := ⟨fun p pins s σ H Q I q => h.run p pins s σ H Q I (i σ H Q q)⟩
theorem PS_imp {X : Cx} {e : Stmt} {t t' : TS} (h : PS X e t) (i : ∀ E σ H, t' E σ H → t E σ H) : PS X e t' := ⟨fun pins s σ H E I q => h.run pins s σ H E I (i E σ H q)⟩
theorem PSs_imp {X : Cx} {e : List Stmt} {t t' : TS} (h : PSs X e t) (i : ∀ E σ H, t' E σ H → t E σ H) : PSs X e t' := ⟨fun pins s σ H E I q => h.run pins s σ H E I (i E σ H q)⟩

/-! ### composition -/
/-- what is wanted of an exception -/
abbrev ErP (K : PySem.W.Frag) (Wx : WX) (σ : L2.St) (L W : List Addr) (H : Hp) (e : Err) (ρ' : Env) : Prop :=
  ∀ c dd W' H', Stp L W H W' H' → Rl K L W' ρ' σ H' → ErrRep K (hide H' (W' ++ L)) c dd e → Wx c dd σ H'
@[simp] def Out.of : Res Out → Out
  | .ok o _ => o
  | .er e ρ => .er e ρ
  | .stuck => .stuck
section
variable {K : PySem.W.Frag} {Wx : WX} {L W : List Addr} {ρ : Env} {σ : L2.St} {H : Hp} {β : Type} {T : Res β → Prop}
theorem bd_D {ma : M D} {k : D → Env → Res β} {R : VK} (r : Rl K L W ρ σ H) (p : T ((ma ρ).bd k)) (hR : ∀ x d ρ1 W1 H1, Stp L W H W1 H1 → Rl K L W1 ρ1 σ H1 → Rep K (hide H1 (W1 ++ L)) x d → T (k d ρ1) → R x H1)
    (hs : T .stuck → False := by exact id) (he : ∀ e ρ', T (.er e ρ') → ErP K Wx σ L W H e ρ' := by exact fun _ _ h => h) : tE K Wx (vl ma) σ H R := by
  refine ⟨ρ, L, W, r, ?_⟩
  show Post K Wx σ L W H R ((ma ρ).map Slot.val)
  refine Post.val ?_
  revert p
  cases ma ρ with
  | stuck => exact hs
  | er e ρ' => exact he e ρ'
  | ok d ρ' => exact fun p v W' H' st rl q => hR v d ρ' W' H' st rl q p
theorem bd_S {ma : M Slot} {k : Slot → Env → Res β} {R : VK} (r : Rl K L W ρ σ H) (p : T ((ma ρ).bd k)) (hR : ∀ x s ρ1 W1 H1, Stp L W H W1 H1 → Rl K L W1 (s :: ρ1) (some x :: σ) H1 → T (k s ρ1) → R x H1)
    (hs : T .stuck → False := by exact id) (he : ∀ e ρ', T (.er e ρ') → ErP K Wx σ L W H e ρ' := by exact fun _ _ h => h) : tE K Wx ma σ H R := by
  refine ⟨ρ, L, W, r, ?_⟩
  revert p
  cases ma ρ with
  | stuck => exact hs
  | er e ρ' => exact he e ρ'
  | ok d ρ' => exact fun p v W' H' st rl => hR v d ρ' W' H' st rl p
theorem bd_B {ma : M Bool} {k : Bool → Env → Res β} {R : Bool → Hp → Prop} (r : Rl K L W ρ σ H) (p : T ((ma ρ).bd k)) (hR : ∀ b ρ1 W1 H1, Stp L W H W1 H1 → Rl K L W1 ρ1 σ H1 → T (k b ρ1) → R b H1)
    (hs : T .stuck → False := by exact id) (he : ∀ e ρ', T (.er e ρ') → ErP K Wx σ L W H e ρ' := by exact fun _ _ h => h) : tB' K Wx ma σ H R := by
  refine ⟨ρ, L, W, r, ?_⟩
  revert p
  cases ma ρ with
  | stuck => exact hs
  | er e ρ' => exact he e ρ'
  | ok d ρ' => exact fun p W' H' st rl => hR d ρ' W' H' st rl p
theorem bd_A {ma : M (List D)} {k : List D → Env → Res β} {R : List V → Hp → Prop} (r : Rl K L W ρ σ H) (p : T ((ma ρ).bd k)) (hR : ∀ x d ρ1 W1 H1, Stp L W H W1 H1 → Rl K L W1 ρ1 σ H1 → Reps K (hide H1 (W1 ++ L)) x d → T (k d ρ1) → R x H1)
    (hs : T .stuck → False := by exact id) (he : ∀ e ρ', T (.er e ρ') → ErP K Wx σ L W H e ρ' := by exact fun _ _ h => h) : tA K Wx ma σ H R := by
  refine ⟨ρ, L, W, r, ?_⟩
  revert p
  cases ma ρ with
  | stuck => exact hs
  | er e ρ' => exact he e ρ'
  | ok d ρ' => exact fun p v W' H' st rl q => hR v d ρ' W' H' st rl q p
end
theorem map_bd {α β γ : Type} (f : β → γ) (r : Res α) (k : α → Env → Res β) : (r.bd k).map f = r.bd fun a ρ => (k a ρ).map f := by cases r <;> rfl
end P
/-! The P-layer, 3: expressions. -/
namespace P
open PySem PySem.Spec PyProof.Rows L2

/-! ### names, constants -/
@[simp] def var (i : Nat) : M D := fun ρ => match ρ[i]? with
  | some (.val d) => .ok d ρ
  | _ => .stuck
@[simp] def cst (d : D) : M D := fun ρ => .ok d ρ
section
variable {X : Cx} {Wx : WX}
theorem Rl.var {K : PySem.W.Frag} {L W : List Addr} {ρ : Env} {σ : L2.St} {H : Hp} {i : Nat} {d : D} (r : Rl K L W ρ σ H) (e : ρ[i]? = some (.val d)) : ∃ v, σ[i]? = some (some v) ∧ Rep K (hide H (W ++ L)) v d := by
  obtain ⟨v, A, f, B, h1, h2, h3⟩ := r.rel.get e (by simp)
  cases h3 with
  | val h3 => exact ⟨v, h1, h3⟩
theorem px_var (i : Nat) {x : Str} {pos : Pos} (hN : X.N[i]? = some x := by rfl) (hv : Vis X.env.scope x := by first | exact Or.inl rfl | exact Or.inr (Or.inl rfl) | exact Or.inr (Or.inr rfl)) (hd : (x == ("__debug__" : Str)) = false := by decide)
    (hcd : (x == ("__classdict__" : Str)) = false := by decide) : PD X Wx (.Name x pos) (var i) := by
  refine PE_imp (pe_var (i := i) hN hv hd hcd) fun σ H Q h => ?_
  obtain ⟨ρ, L, W, r, p⟩ := h
  revert p
  show Post X.K Wx σ L W H Q ((var i ρ).map Slot.val) → _
  unfold var
  split
  · rename_i d e
    intro p
    obtain ⟨v, h1, h2⟩ := r.var e
    exact ⟨v, h1, p.here r (Ex.refl _) h2⟩
  · exact fun p => p.elim
/-- a constant, whatever it is -/
theorem px_c {e : Expr} {v : V} {d : D} (h : PE X e (tC v)) (q : ∀ G, Rep X.K G v d) : PD X Wx e (cst d) := by
  refine PE_imp h fun σ H Q hq => ?_
  obtain ⟨ρ, L, W, r, p⟩ := hq
  have p : Post X.K Wx σ L W H Q (.ok (.val d) ρ) := p
  exact p.here r (Ex.refl _) (q _)
theorem px_int {i : Int} {j : Nat} {pos : Pos} : PD X Wx (.Constant (.int i) j pos) (cst (.int i)) := px_c pe_int fun _ => .int i
theorem px_bl {b : Bool} {j : Nat} {pos : Pos} : PD X Wx (.Constant (.bool b) j pos) (cst (.bl b)) := px_c pe_bl fun _ => .bl b
theorem px_non {j : Nat} {pos : Pos} : PD X Wx (.Constant .none j pos) (cst .non) := px_c pe_non fun _ => .non
theorem px_str {x : Str} {j : Nat} {pos : Pos} : PD X Wx (.Constant (.str x) j pos) (cst (.str x)) := px_c pe_str fun _ => .str x
theorem px_gint {i : Int} {x : Str} {pos : Pos} {t : Tok} (hm : X.mg x = some (.int i t)) (hg : Gl X x := by rfl) (hd : (x == ("__debug__" : Str)) = false := by decide) : PD X Wx (.Name x pos) (cst (.int i)) :=
  px_c (pe_glob (v := .int i) hg hm ⟨t, rfl⟩ hd) fun _ => .int i
theorem px_gstr {i : Str} {x : Str} {pos : Pos} {t : Tok} (hm : X.mg x = some (.str i t)) (hg : Gl X x := by rfl) (hd : (x == ("__debug__" : Str)) = false := by decide) : PD X Wx (.Name x pos) (cst (.str i)) :=
  px_c (pe_glob (v := .str i) hg hm ⟨t, rfl⟩ hd) fun _ => .str i
end

/-! ### operators by values -/
/-- r does what g says -/
def OpOk (K : PySem.W.Frag) (r : R2) (g : D → D → Option D) : Prop := ∀ (S : List Addr) (H : Hp) (x y : V) (dx dy d : D) (Q : VK), (∀ a ∈ S, H a ≠ none) → Rep K (hide H S) x dx → Rep K (hide H S) y dy → g dx dy = some d →
  (∀ v H', Ex H H' → Rep K (hide H' S) v d → Q v H') → r x y H Q
def OpD (X : Cx) (f : Value → Value → Sem Value) (g : D → D → Option D) : Prop := ∃ r : R2, OpR X f r ∧ OpOk X.K r g
def UnD (X : Cx) (f : Value → Sem Value) (g : D → Option D) : Prop := ∃ r : V → Hp → VK → Prop, UnR X f r ∧ ∀ (S : List Addr) (H : Hp) (x : V) (dx d : D) (Q : VK), (∀ a ∈ S, H a ≠ none) → Rep X.K (hide H S) x dx → g dx = some d →
  (∀ v H', Ex H H' → Rep X.K (hide H' S) v d → Q v H') → r x H Q
@[simp] def bop (g : D → D → Option D) (ma mb : M D) : M D := fun ρ => (ma ρ).bd fun x ρ1 => (mb ρ1).bd fun y ρ2 => ofO (g x y) ρ2
@[simp] def uop (g : D → Option D) (ma : M D) : M D := fun ρ => (ma ρ).bd fun x ρ1 => ofO (g x) ρ1
theorem OpOk.or {K : PySem.W.Frag} {r r' : R2} {g g' : D → D → Option D} (h : OpOk K r g) (h' : OpOk K r' g') : OpOk K (fun x y H Q => r x y H Q ∨ r' x y H Q) (fun x y => (g x y).or (g' x y)) := fun S H x y dx dy d Q al rx ry e k => by
  have e : (g dx dy).or (g' dx dy) = some d := e
  cases q : g dx dy with
  | none => rw [q] at e; exact .inr (h' S H x y dx dy d Q al rx ry e k)
  | some d' => rw [q] at e; cases e; exact .inl (h S H x y dx dy _ Q al rx ry q k)
theorem OpD.or {X : Cx} {f : Value → Value → Sem Value} {g g' : D → D → Option D} : OpD X f g → OpD X f g' → OpD X f (fun x y => (g x y).or (g' x y))
  | ⟨r, h1, h2⟩, ⟨r', h3, h4⟩ => ⟨_, h1.or h3, h2.or h4⟩
theorem OpD.of {X : Cx} {f : Value → Value → Sem Value} {g g' : D → D → Option D} (h : OpD X f g) (e : ∀ x y, g' x y = g x y) : OpD X f g' := by
  have : g' = g := by funext x y; exact e x y
  rw [this]; exact h
section
variable {X : Cx} {Wx : WX} {K : PySem.W.Frag} {L W : List Addr} {ρ : Env} {σ : L2.St} {H : Hp} {Q : VK}
theorem Post.ofO {o : Option D} (p : Post K Wx σ L W H Q ((ofO o ρ).map Slot.val)) : ∃ d, o = some d ∧ Post K Wx σ L W H Q (.ok (.val d) ρ) := by
  cases o with
  | none => exact p.elim
  | some d => exact ⟨d, rfl, p⟩
/-- two operands -/
theorem two {ma mb : M D} {r : R2} {g : D → D → Option D} (hg : OpOk K r g) {H : Hp} {Q : VK} (h : tE K Wx (vl (bop g ma mb)) σ H Q) : tOp r (tE K Wx (vl ma)) (tE K Wx (vl mb)) σ H Q := by
  obtain ⟨ρ, L, W, rl, p⟩ := h
  simp only [vl, bop, map_bd] at p
  refine bd_D (T := Post K Wx σ L W H Q) rl p fun x dx ρ1 W1 H1 st1 rl1 q1 p => ?_
  refine bd_D (T := Post K Wx σ L W H Q) (k := fun y ρ2 => (P.ofO (g dx y) ρ2).map Slot.val) rl1 p (fun y dy ρ2 W2 H2 st2 rl2 q2 p => ?_) id (fun e ρ' h => (Post.step (r := .er e ρ') st1 h))
  obtain ⟨d, e, p⟩ := Post.ofO p
  exact hg (W2 ++ L) H2 x y dx dy d Q rl2.alloc (st2.rep q1) q2 e fun v H' ex q => (p.step (st1.trans st2)).here rl2 ex q
theorem px_bin {a b : Expr} {op : Operator} {pos : Pos} {ma mb : M D} {g : D → D → Option D} (ho : OpD X (binaryOp op) g) (ha : PD X Wx a ma) (hb : PD X Wx b mb) : PD X Wx (.BinOp a op b pos) (bop g ma mb) := by
  obtain ⟨r, h1, h2⟩ := ho
  exact PE_imp (pe_op h1 ha hb) fun σ H Q h => two h2 h
theorem px_cmp {a b : Expr} {op : CmpOp} {pos : Pos} {ma mb : M D} {g : D → D → Option D} (ho : OpD X (compareOp op) g) (ha : PD X Wx a ma) (hb : PD X Wx b mb) (hm : behindInMarks op b = false := by first | exact nobehind _ (by decide) (by decide) | rfl) : PD X Wx (.Compare a [op] [b] pos) (bop g ma mb) := by
  obtain ⟨r, h1, h2⟩ := ho
  exact PE_imp (pe_cmpR h1 ha hb hm) fun σ H Q h => two h2 h
theorem px_un {a : Expr} {op : UnaryOp} {pos : Pos} {ma : M D} {g : D → Option D} (ho : UnD X (unaryOp op) g) (ha : PD X Wx a ma) : PD X Wx (.UnaryOp op a pos) (uop g ma) := by
  obtain ⟨r, h1, h2⟩ := ho
  refine PE_imp (pe_un h1 ha) fun σ H Q h => ?_
  obtain ⟨ρ, L, W, rl, p⟩ := h
  simp only [vl, uop, map_bd] at p
  refine bd_D (T := Post X.K Wx σ L W H Q) rl p fun x dx ρ1 W1 H1 st1 rl1 q1 p => ?_
  obtain ⟨d, e, p⟩ := Post.ofO p
  exact h2 (W1 ++ L) H1 x dx d Q rl1.alloc q1 e fun v H' ex q => (p.step st1).here rl1 ex q
end

/-! ### tests -/
@[simp] def asB : D → Option Bool
  | .bl b => some b
  | _ => none
@[simp] def tst (ma : M D) : M Bool := fun ρ => (ma ρ).bd fun d ρ1 => ofO (asB d) ρ1
@[simp] def cond {α : Type} (mt : M Bool) (ma mb : M α) : M α := fun ρ => (mt ρ).bd fun b ρ1 => if b then ma ρ1 else mb ρ1
@[simp] def andB (ma mb : M Bool) : M Bool := fun ρ => (ma ρ).bd fun b ρ1 => if b then mb ρ1 else .ok false ρ1
@[simp] def orB (ma mb : M Bool) : M Bool := fun ρ => (ma ρ).bd fun b ρ1 => if b then .ok true ρ1 else mb ρ1
@[simp] def notB (ma : M Bool) : M Bool := fun ρ => (ma ρ).bd fun b ρ1 => .ok (!b) ρ1
@[simp] def andV (ma mb : M D) : M D := fun ρ => (ma ρ).bd fun d ρ1 => match d with
  | .bl b => if b then mb ρ1 else .ok (.bl false) ρ1
  | _ => .stuck
@[simp] def orV (ma mb : M D) : M D := fun ρ => (ma ρ).bd fun d ρ1 => match d with
  | .bl b => if b then .ok (.bl true) ρ1 else mb ρ1
  | _ => .stuck
@[simp] def notV (ma : M D) : M D := fun ρ => (ma ρ).bd fun d ρ1 => match d with
  | .bl b => .ok (.bl (!b)) ρ1
  | _ => .stuck
@[simp] def chain (g g' : D → D → Option D) (ma mb mc : M D) : M D := fun ρ => (ma ρ).bd fun x ρ1 => (mb ρ1).bd fun y ρ2 => match g x y with
  | some (.bl k) => if k then (mc ρ2).bd fun z ρ3 => ofO (g' y z) ρ3 else .ok (.bl false) ρ2
  | _ => .stuck
section
variable {X : Cx} {Wx : WX} {K : PySem.W.Frag} {L W : List Addr} {ρ : Env} {σ : L2.St} {H : Hp} {Q : VK}
theorem Rep.bl_inv {G : Hp} {v : V} {b : Bool} (h : Rep K G v (.bl b)) : v = .bl b := by cases h; rfl
theorem tst_tE {ma : M D} {H : Hp} {Q : Bool → Hp → Prop} (h : tB' K Wx (tst ma) σ H Q) : tE K Wx (vl ma) σ H fun x H' => ∃ k, x = .bl k ∧ Q k H' := by
  obtain ⟨ρ, L, W, rl, p⟩ := h
  refine bd_D (T := PostT K Wx σ L W H Q) rl p fun x dx ρ1 W1 H1 st1 rl1 q1 p => ?_
  cases dx with
  | bl b => exact ⟨b, q1.bl_inv, p W1 H1 st1 rl1⟩
  | _ => exact p.elim
theorem px_tst {e : Expr} {ma : M D} (h : PD X Wx e ma) (he : ∀ whole, isTrue e X.env whole = (do let v ← whole; standAt e.pos; holding [v] (truthy v)) := by intro _; rfl) : PB X Wx e (tst ma) :=
  PT_imp (pt_val h he) fun σ H Q hq => tst_tE hq
theorem px_tcmp {a b : Expr} {op : CmpOp} {pos : Pos} {ma mb : M D} {g : D → D → Option D} (ho : OpD X (compareOp op) g) (ha : PD X Wx a ma) (hb : PD X Wx b mb) (hm : behindInMarks op b = false := by first | exact nobehind _ (by decide) (by decide) | rfl) : PB X Wx (.Compare a [op] [b] pos) (tst (bop g ma mb)) := by
  obtain ⟨r, h1, h2⟩ := ho
  exact PT_imp (pt_cmpR h1 ha hb hm) fun σ H Q h => two h2 (tst_tE h)
theorem px_w {e : Expr} {m : M Bool} (h : PBW X Wx e m) : PB X Wx e m := PW.pt h
theorem px_and1 {a : Expr} {pos : Pos} {ma : M Bool} (ha : PB X Wx a ma) : PBW X Wx (.BoolOp .And [a] pos) ma := pw_and1 ha
theorem px_or1 {a : Expr} {pos : Pos} {ma : M Bool} (ha : PB X Wx a ma) : PBW X Wx (.BoolOp .Or [a] pos) ma := pw_or1 ha
theorem px_and {a b : Expr} {rest : List Expr} {pos : Pos} {ma mb : M Bool} (ha : PB X Wx a ma) (hb : PBW X Wx (.BoolOp .And (b :: rest) pos) mb) : PBW X Wx (.BoolOp .And (a :: b :: rest) pos) (andB ma mb) := by
  refine PW_imp (pw_and ha hb) fun σ H Q h => ?_
  obtain ⟨ρ, L, W, rl, p⟩ := h
  refine bd_B (T := PostT X.K Wx σ L W H Q) rl p fun c ρ1 W1 H1 st1 rl1 p => ?_
  cases c with
  | true => exact iteT ⟨ρ1, L, W1, rl1, PostT.step st1 p⟩
  | false => exact iteF (p W1 H1 st1 rl1)
theorem px_or {a b : Expr} {rest : List Expr} {pos : Pos} {ma mb : M Bool} (ha : PB X Wx a ma) (hb : PBW X Wx (.BoolOp .Or (b :: rest) pos) mb) : PBW X Wx (.BoolOp .Or (a :: b :: rest) pos) (orB ma mb) := by
  refine PW_imp (pw_or ha hb) fun σ H Q h => ?_
  obtain ⟨ρ, L, W, rl, p⟩ := h
  refine bd_B (T := PostT X.K Wx σ L W H Q) rl p fun c ρ1 W1 H1 st1 rl1 p => ?_
  cases c with
  | false => exact iteF ⟨ρ1, L, W1, rl1, PostT.step st1 p⟩
  | true => exact iteT (p W1 H1 st1 rl1)
theorem px_tnot {a : Expr} {pos : Pos} {ma : M Bool} (ha : PB X Wx a ma) : PB X Wx (.UnaryOp .Not a pos) (notB ma) := by
  refine PT_imp (pt_not ha) fun σ H Q h => ?_
  obtain ⟨ρ, L, W, rl, p⟩ := h
  exact bd_B (T := PostT X.K Wx σ L W H Q) rl p fun c ρ1 W1 H1 st1 rl1 p => p W1 H1 st1 rl1
theorem px_if {c a b : Expr} {pos : Pos} {mt : M Bool} {ma mb : M D} (hc : PB X Wx c mt) (ha : PD X Wx a ma) (hb : PD X Wx b mb) : PD X Wx (.IfExp c a b pos) (cond mt ma mb) := by
  refine PE_imp (pe_ifExp hc ha hb) fun σ H Q h => ?_
  obtain ⟨ρ, L, W, rl, p⟩ := h
  simp only [vl, cond, map_bd] at p
  refine bd_B (T := Post X.K Wx σ L W H Q) rl p fun c ρ1 W1 H1 st1 rl1 p => ?_
  cases c with
  | false => exact iteF ⟨ρ1, L, W1, rl1, Post.step st1 p⟩
  | true => exact iteT ⟨ρ1, L, W1, rl1, Post.step st1 p⟩
theorem px_ifS {c a b : Expr} {pos : Pos} {mt : M Bool} {ma mb : M Slot} (hc : PB X Wx c mt) (ha : PX X Wx a ma) (hb : PX X Wx b mb) : PX X Wx (.IfExp c a b pos) (cond mt ma mb) := by
  refine PE_imp (pe_ifExp hc ha hb) fun σ H Q h => ?_
  obtain ⟨ρ, L, W, rl, p⟩ := h
  refine bd_B (T := Post X.K Wx σ L W H Q) rl p fun c ρ1 W1 H1 st1 rl1 p => ?_
  cases c with
  | false => exact iteF ⟨ρ1, L, W1, rl1, Post.step st1 p⟩
  | true => exact iteT ⟨ρ1, L, W1, rl1, Post.step st1 p⟩
theorem px_one {op : BoolOp} {a : Expr} {pos : Pos} {ma : M D} (ha : PD X Wx a ma) : PD X Wx (.BoolOp op [a] pos) ma := pe_one ha
theorem px_andV {a b : Expr} {rest : List Expr} {pos : Pos} {ma mb : M D} (ha : PD X Wx a ma) (hb : PD X Wx (.BoolOp .And (b :: rest) pos) mb) : PD X Wx (.BoolOp .And (a :: b :: rest) pos) (andV ma mb) := by
  refine PE_imp (pe_and ha hb) fun σ H Q h => ?_
  obtain ⟨ρ, L, W, rl, p⟩ := h
  simp only [vl, andV, map_bd] at p
  refine bd_D (T := Post X.K Wx σ L W H Q) rl p fun x d ρ1 W1 H1 st1 rl1 q1 p => ?_
  cases d with
  | bl c =>
    refine ⟨c, q1.bl_inv, ?_⟩
    cases c with
    | true => exact iteT ⟨ρ1, L, W1, rl1, Post.step st1 p⟩
    | false => exact iteF (Post.here (Post.step st1 p) rl1 (Ex.refl _) (.bl false))
  | _ => exact p.elim
theorem px_orV {a b : Expr} {rest : List Expr} {pos : Pos} {ma mb : M D} (ha : PD X Wx a ma) (hb : PD X Wx (.BoolOp .Or (b :: rest) pos) mb) : PD X Wx (.BoolOp .Or (a :: b :: rest) pos) (orV ma mb) := by
  refine PE_imp (pe_or ha hb) fun σ H Q h => ?_
  obtain ⟨ρ, L, W, rl, p⟩ := h
  simp only [vl, orV, map_bd] at p
  refine bd_D (T := Post X.K Wx σ L W H Q) rl p fun x d ρ1 W1 H1 st1 rl1 q1 p => ?_
  cases d with
  | bl c =>
    refine ⟨c, q1.bl_inv, ?_⟩
    cases c with
    | false => exact iteF ⟨ρ1, L, W1, rl1, Post.step st1 p⟩
    | true => exact iteT (Post.here (Post.step st1 p) rl1 (Ex.refl _) (.bl true))
  | _ => exact p.elim
theorem px_notV {a : Expr} {pos : Pos} {ma : M D} (ha : PD X Wx a ma) : PD X Wx (.UnaryOp .Not a pos) (notV ma) := by
  refine PE_imp (pe_not ha) fun σ H Q h => ?_
  obtain ⟨ρ, L, W, rl, p⟩ := h
  simp only [vl, notV, map_bd] at p
  refine bd_D (T := Post X.K Wx σ L W H Q) rl p fun x d ρ1 W1 H1 st1 rl1 q1 p => ?_
  cases d with
  | bl c => exact ⟨c, q1.bl_inv, Post.here (Post.step st1 p) rl1 (Ex.refl _) (.bl _)⟩
  | _ => exact p.elim
theorem chain_tE {a b c : Expr} {ma mb mc : M D} {r r' : R2} {g g' : D → D → Option D} (hg : OpOk K r g) (hg' : OpOk K r' g') {H : Hp} {Q : VK} (h : tE K Wx (vl (chain g g' ma mb mc)) σ H Q) : tChain r r' (tE K Wx (vl ma)) (tE K Wx (vl mb)) (tE K Wx (vl mc)) σ H Q := by
  obtain ⟨ρ, L, W, rl, p⟩ := h
  simp only [vl, chain, map_bd] at p
  refine bd_D (T := Post K Wx σ L W H Q) rl p fun x dx ρ1 W1 H1 st1 rl1 q1 p => ?_
  refine bd_D (T := Post K Wx σ L W1 H1 Q) rl1 (Post.step st1 p) fun y dy ρ2 W2 H2 st2 rl2 q2 p => ?_
  cases e : g dx dy with
  | none => rw [e] at p; exact p.elim
  | some d =>
    rw [e] at p
    cases d with
    | bl k =>
      refine hg (W2 ++ L) H2 x y dx dy (.bl k) _ rl2.alloc (st2.rep q1) q2 e fun v H3 ex q => ⟨k, q.bl_inv, ?_⟩
      cases k with
      | true =>
        have p : Post K Wx σ L W1 H1 Q (((mc ρ2).bd fun z ρ3 => P.ofO (g' dy z) ρ3).map Slot.val) := p
        rw [map_bd] at p
        refine iteT (bd_D (T := Post K Wx σ L W2 H3 Q) (rl2.ex ex) ((p.step st2).step (rl2.stp ex)) fun z dz ρ3 W4 H4 st4 rl4 q4 p => ?_)
        obtain ⟨d', e', p⟩ := Post.ofO p
        exact hg' (W4 ++ L) H4 y z dy dz d' Q rl4.alloc (st4.rep ((rl2.stp ex).rep q2)) q4 e' fun v H' ex q => (p.step st4).here rl4 ex q
      | false => exact iteF (Post.here (Post.step st2 p) rl2 ex (.bl false))
    | _ => exact p.elim
theorem px_chain {a b c : Expr} {op op' : CmpOp} {pos : Pos} {ma mb mc : M D} {g g' : D → D → Option D} (ho : OpD X (compareOp op) g) (ho' : OpD X (compareOp op') g') (ha : PD X Wx a ma) (hb : PD X Wx b mb) (hc : PD X Wx c mc)
    (hm : lastMarks [op, op'] [b, c] = false := by with_unfolding_all rfl) : PD X Wx (.Compare a [op, op'] [b, c] pos) (chain g g' ma mb mc) := by
  obtain ⟨r, h1, h2⟩ := ho
  obtain ⟨r', h1', h2'⟩ := ho'
  exact PE_imp (pe_chain h1 h1' ha hb hc hm) fun σ H Q h => chain_tE (a := a) (b := b) (c := c) h2 h2' h
theorem px_tchain {a b c : Expr} {op op' : CmpOp} {pos : Pos} {ma mb mc : M D} {g g' : D → D → Option D} (ho : OpD X (compareOp op) g) (ho' : OpD X (compareOp op') g') (ha : PD X Wx a ma) (hb : PD X Wx b mb) (hc : PD X Wx c mc)
    (hm : lastMarks [op, op'] [b, c] = false := by with_unfolding_all rfl) : PB X Wx (.Compare a [op, op'] [b, c] pos) (tst (chain g g' ma mb mc)) := by
  obtain ⟨r, h1, h2⟩ := ho
  obtain ⟨r', h1', h2'⟩ := ho'
  exact PT_imp (pt_chain h1 h1' ha hb hc hm) fun σ H Q h => chain_tE (a := a) (b := b) (c := c) h2 h2' (tst_tE h)
end
end P
/-! The P-layer, G: promises of defs that are called where no guard stands (so that repr can be asked). -/
namespace P
open PySem PySem.Spec PyProof.Rows L2

/-- room, and no guard -/
structure Rm (k : Nat) (A : Around) : Prop where
  room : Room k A
  grd : A.guards = some []
theorem Rm.le {j k : Nat} {A : Around} (r : Rm k A) (h : j ≤ k) : Rm j A := ⟨r.room.mono h, r.grd⟩
theorem Rm.in_ {k : Nat} {A : Around} (r : Rm (k + 1) A) (env : PySem.Env) : Rm k (A.deeper env) := ⟨r.room.deeper env, r.grd⟩
/-- the promise of the def at f -/
structure FnG (P : Program) (w : World) (K : PySem.W.Frag) (mg : Str → Option Value) (base : Heap) (k : Nat) (f : Addr) (fd : FuncData) (ps : List Str) (sp : Sp) : Prop where
  len : ∀ vs H Q E, sp vs H Q E → vs.length = ps.length
  run : ∀ (A : Around) (outer : List PySem.Env) (s : Shared) (H : Hp) (args : Args) (us : List Value) (vs : List V) (Q : VK) (E : XK), Rm k A → Env0 P w K mg base A outer s H → BindsTo s fd args (ps.zip us) → Vals vs us → sp vs H Q E →
    codeAny (model P w) A (.call (.ref f) args) (CR (L2.CX P w) outer P w H s Q E) s
theorem FnG.le {P : Program} {w : World} {K : PySem.W.Frag} {mg : Str → Option Value} {base : Heap} {j k : Nat} {f : Addr} {fd : FuncData} {ps : List Str} {sp : Sp} (F : FnG P w K mg base j f fd ps sp) (h : j ≤ k) : FnG P w K mg base k f fd ps sp :=
  ⟨F.len, fun A outer s H args us vs Q E hr => F.run A outer s H args us vs Q E (hr.le h)⟩
theorem FnG.weak {P : Program} {w : World} {K : PySem.W.Frag} {mg : Str → Option Value} {base : Heap} {k : Nat} {f : Addr} {fd : FuncData} {ps : List Str} {sp sp' : Sp} (F : FnG P w K mg base k f fd ps sp)
    (h : ∀ vs H Q E, sp' vs H Q E → sp vs H Q E) : FnG P w K mg base k f fd ps sp' :=
  ⟨fun vs H Q E q => F.len vs H Q E (h _ _ _ _ q), fun A outer s H args us vs Q E hr he hb hv hs => F.run A outer s H args us vs Q E hr he hb hv (h _ _ _ _ hs)⟩
section
variable {P : Program} {w : World} {K : PySem.W.Frag} {mg : Str → Option Value} {base : Heap} {x qual : Str} {params : Arguments} {body : List Stmt} {scope : Scope} {dvs : List V} {kws : List (Str × V)} {f : Addr} {fd : FuncData} {N ps : List Str} {k : Nat} {sp : Sp}
/-- a def's promise, by its body -/
theorem FnG.of_body (F : FunD K x qual params body scope dvs kws f fd) (Sc : FnScope N ps scope) (len : ∀ vs H Q E, sp vs H Q E → vs.length = ps.length)
    (hbody : ∀ (cdv : Value) (A : Around) (outer : List PySem.Env) (s : Shared) (H : Hp) (vs : List V) (Q : VK) (E : XK), Rm k (A.deeper (envOfC qual scope s.heap.objs.size f cdv)) → sp vs H Q E →
      ∃ t, PSs (cxOf (L2.CX P w) P w K mg base N qual scope f cdv A outer s H E) body t ∧ t { nx := fun _ H' => Q .non H', rt := Q } (L2.start N vs) H) : FnG P w K mg base (k + 1) f fd ps sp := by
  obtain ⟨oc, od, dV, kV, doc, pm, an, cdv, ct, osl, rfl, lk, hcd, _, _⟩ := F.ex
  constructor
  · exact len
  intro A outer s H args us vs Q E hr e0 hb rv hsp
  have stays : ∀ b o, base.get? b = some o → s.heap.get? b = some o := fun b o e => (e0.bs b o e).1
  have KX : K.In s.heap := e0.mod.kin.keeps stays
  have vis : ∀ y ∈ ps.zip us, scope.names.lookup y.1 = some .local ∨ (scope.names.lookup y.1 = some .cell ∧ ((cellsFrom (s.heap.objs.size + 1) scope.names []).lookup y.1).isSome = true) := by
    rintro ⟨n, v⟩ hy
    exact (Sc.par n (List.of_mem_zip hy).1).imp id fun q => ⟨q, PySem.W.cellsFrom_some _ _ _ (.inl q)⟩
  refine codeAny_call_function hr.room.depth (KX _ _ lk) rfl Sc.co Sc.gen rfl (PySem.W.codeRec_of KX hcd) (hb _ _ _ _ ?_)
  exact wpAny_newFunctionEnv_cells Sc.kind vis fun env he s1 x => by
    subst he
    refine ⟨(e0.mod.nolimit.keeps stays).keeps x.toInCall.keep, codeAny_func ?_⟩
    obtain ⟨t, ht, hq⟩ := hbody cdv A outer s H vs Q E (hr.in_ _) hsp
    have I : Inv (cxOf (L2.CX P w) P w K mg base N qual scope f cdv A outer s H E) [] (L2.start N vs) H s1 := inv_start Sc hr.room.hd e0 (len _ _ _ _ hsp) rv x
    refine wpAny_mono (ht.run [] s1 _ H _ I hq) (fun fl s' hs => ?_) fun e s' hs => hs
    match fl, hs with
    | .ret u, ⟨v, σ', H', J, r', q⟩ => exact ⟨v, H', J.os, J.bare, J.base, J.hok, r', q⟩
    | .next, ⟨σ', H', J, q⟩ => exact ⟨.non, H', J.os, J.bare, J.base, J.hok, rfl, q⟩
    | .brk, ⟨_, _, _, q⟩ => exact q.elim
    | .cont, ⟨_, _, _, q⟩ => exact q.elim
end
/-- the law's own def, called where the row calls it -/
theorem lawG {P : Program} {w : World} {K : PySem.W.Frag} {mg mb : Str → Option Value} {k : Nat} {fa a : Addr} {fd : FuncData} {x : Str} {sp : Sp} {s₁ : Shared} {vs : List Value} {ns : List Int}
    (KX : K.In s₁.heap) (hns : s₁.heap.Ns mainGlobals mg) (hb : s₁.heap.Ns builtinsNs mb) (hbb : ∀ x : Str, x ≠ "__name__" → mb x = bootBuiltins x) (hlim : s₁.heap.NoLimit) (hg : s₁.gens = #[])
    (ha : s₁.heap.get? a = some { cls := .type "list", data := .seq vs.toArray }) (hi : IntsAre vs ns) (hl : ns.length ≤ sizeLine) (hr : Rm k callerA)
    (F : ∀ base : Heap, K.In base → base.Ns mainGlobals mg → FnG P w K mg base k fa fd [x] sp) (hbind : ∀ (s : Shared) (u : Value), BindsTo s fd ⟨[u], []⟩ [(x, u)])
    (hsp : ∀ H : Hp, SqL K H a (ns.map V.int) → sp [.ref a] H (fun v _ => v = .bl true) fun _ _ _ => False) :
    codeAny (model P w) callerA (.call (.ref fa) ⟨[.ref a], []⟩) (fun r s' => r = .ok (.ret (.bool true)) ∧ OldK s₁.heap s'.heap ∧ s'.os = s₁.os ∧ AllBare s'.gens) s₁ := by
  have rv := vals_ints hi
  have lenV := hi.length
  -- what is tracked: at most the script, as it is
  suffices core : ∀ H : Hp, Only H → SqL K H a (ns.map V.int) → HOk P w H s₁.heap → (∀ b, H b ≠ none → b = a ∧ K.lookup a = none) →
      codeAny (model P w) callerA (.call (.ref fa) ⟨[.ref a], []⟩) (fun r s' => r = .ok (.ret (.bool true)) ∧ OldK s₁.heap s'.heap ∧ s'.os = s₁.os ∧ AllBare s'.gens) s₁ by
    cases hk : K.lookup a with
    | some o =>
      have e := KX a o hk
      rw [ha] at e
      cases e
      exact core (fun _ => none) (fun _ => .inl rfl) (.inr ⟨_, vs.toArray, _, hk, rfl, rfl, rfl, by rw [List.size_toArray, lenV]; exact hl, by simpa using rv⟩) (fun b u (z : (none : Option HO) = some u) => by cases z) fun b z => absurd rfl z
    | none =>
      have at_ : ∀ b, (if b = a then some (HO.frz { cls := .type "list", data := .seq vs.toArray } (.lst (ns.map V.int))) else none) ≠ none → b = a := fun b z => by
        by_cases hb : b = a
        · exact hb
        · exact absurd (if_neg hb) z
      refine core (fun b => if b = a then some (.frz { cls := .type "list", data := .seq vs.toArray } (.lst (ns.map V.int))) else none) (fun b => ?_) (.inl (.inr ⟨_, if_pos rfl⟩)) (fun b u z => ?_) fun b z => ⟨at_ b z, hk⟩
      · by_cases hb : b = a
        · exact .inr ⟨_, _, if_pos hb⟩
        · exact .inl (if_neg hb)
      · have hb : b = a := at_ b (fun z' => by cases z.symm.trans z')
        subst hb
        cases (if_pos rfl).symm.trans z
        exact ⟨ha, by rw [List.length_map]; exact hl, vs, _, rv, ha⟩
  intro H hO hS hok hA
  have base_of : ∀ {b : Addr} {o : Obj}, s₁.heap.get? b = some o → H b = none → (hidT s₁.heap H).get? b = some o := fun e n => hidT_get e n
  have free : ∀ {b : Addr} {o : Obj}, s₁.heap.get? b = some o → (b = a → False) → H b = none := fun {b o} _ h => by
    cases q : H b with
    | none => rfl
    | some u => exact (h (hA b (by rw [q]; simp)).1).elim
  have nsK : ∀ {b : Addr} {m : Str → Option Value}, s₁.heap.Ns b m → (hidT s₁.heap H).Ns b m := fun {b m} ⟨o, es, ep, e, d, r⟩ => ⟨o, es, ep, base_of e (free e fun z => by
    subst z
    rw [ha] at e
    cases e
    cases d), d, r⟩
  have hKb : K.In (hidT s₁.heap H) := fun b o e => base_of (KX b o e) (by
    cases q : H b with
    | none => rfl
    | some u =>
      have z := hA b (by rw [q]; simp)
      rw [z.1, z.2] at e
      cases e)
  obtain ⟨mc, l1, l2⟩ := hlim
  have e0 : Env0 P w K mg (hidT s₁.heap H) callerA [] s₁ H := ⟨rfl, ⟨hKb, nsK hns, ⟨mb, nsK hb, hbb⟩, ⟨mc, nsK l1, l2⟩⟩, fun b o e => of_hidT e, Nat.le_of_eq (hidT_size _ _), trivial, fun b hb => absurd (show b ∈ ([] : List Addr) from hb) List.not_mem_nil, hok, .of_eq hg⟩
  refine codeAny_mono ((F _ hKb (nsK hns)).run callerA [] s₁ H ⟨[.ref a], []⟩ [.ref a] [.ref a] _ _ hr e0 (hbind s₁ (.ref a)) (.cons rfl .nil) (hsp H hS)) fun r s' h => ?_
  match r, h with
  | .error e, h =>
    obtain ⟨_, _, _, _, _, _, _, _, _, _, _, _, z⟩ := (show L2.CX P w [] H s₁ (fun _ _ _ => False) e s' from h)
    exact z.elim
  | .ok .next, h => exact False.elim h
  | .ok .brk, h => exact False.elim h
  | .ok .cont, h => exact False.elim h
  | .ok (.ret u), ⟨v, H', os, bare, un, hok', r', q⟩ =>
    have q' : v = .bl true := q
    subst q'
    obtain rfl : u = Value.bool true := r'
    refine ⟨rfl, OldK.of_keep fun b o e => ?_, os, bare⟩
    cases q : H b with
    | none => exact un.keep b o e q (fun z => absurd (show b ∈ ([] : List Addr) from z) List.not_mem_nil) List.not_mem_nil
    | some u =>
      rcases hO b with z | z
      · rw [q] at z; cases z
      · obtain ⟨obj, xs, z⟩ := z
        have e1 := (hok b _ z).1
        rw [e] at e1
        have e2 : o = obj := Option.some.inj e1
        rw [e2]
        exact (hok' b _ (un.frzs b obj _ z)).1
/-- .. the end of the row -/
theorem walkG {l : PySem.W.OpenLaw} {n k : Nat} {q : Program} {loose : List Str} {XP : (Str → Option Value) → Heap → Prop} {YP : World → Heap → Prop} {d : DefRec} {x : Str}
    (hn : l.most = some n) (hn2 : n ≤ sizeLine) (hdf : d.params.defaults = []) (hr : Rm k callerA)
    (F : ∀ (w : World) (mg : Str → Option Value) (fa : Addr) (h : Heap), YP w h → h.Ns mainGlobals mg → mg d.name = some (.ref fa) →
      ∃ (K : PySem.W.Frag) (fd : FuncData) (sp : Sp), K.In h ∧ (∀ (s : Shared) (u : Value), BindsTo s fd ⟨[u], []⟩ [(x, u)]) ∧
        (∀ (H : Hp) (a : Addr) (ns : List Int), ns.length ≤ n → SqL K H a (ns.map V.int) → sp [.ref a] H (fun v _ => v = .bl true) fun _ _ _ => False) ∧
        ∀ base : Heap, K.In base → base.Ns mainGlobals mg → FnG l.prog w K mg base k fa fd [x] sp) :
    PySem.W.WalkO q loose XP YP l.row.toRowW d [] (fun f vs => PySem.call f vs) := by
  refine Att.attach_call hn hdf fun w s₀ s₁ mg mb fa o pm cd doc a vs ns G Y ho hd hcd hmg hobj hints hlen hg => ?_
  obtain ⟨K, fd, sp, KX, hb, hsp, hF⟩ := F w mg fa _ Y G.T.g hmg
  exact lawG KX G.T.g G.T.b G.T.builtins G.T.nolimit hg hobj hints (Nat.le_trans hlen hn2) hr hF hb fun H hS => hsp H a ns hlen hS
end P
/-! The P-layer, 4: arguments, calls of defs. -/
namespace P
open PySem PySem.Spec PyProof.Rows L2

theorem hide_congr {H : Hp} {S S' : List Addr} (h : ∀ a, a ∈ S ↔ a ∈ S') : hide H S = hide H S' := by
  funext a
  unfold hide
  by_cases m : a ∈ S
  · rw [if_pos m, if_pos ((h a).mp m)]
  · rw [if_neg m, if_neg fun z => m ((h a).mpr z)]

/-! ### arguments -/
@[simp] def nilA : M (List D) := fun ρ => .ok [] ρ
@[simp] def consA (ma : M D) (mr : M (List D)) : M (List D) := fun ρ => (ma ρ).bd fun d ρ1 => (mr ρ1).bd fun ds ρ2 => .ok (d :: ds) ρ2
section
variable {X : Cx} {Wx : WX}
theorem pxa_nil : PAs X Wx [] nilA := PA_imp pa_nil fun σ H Q h => by
  obtain ⟨ρ, L, W, rl, p⟩ := h
  exact p [] W H .refl rl .nil
theorem pxa_cons {e : Expr} {es : List Expr} {ma : M D} {mr : M (List D)} (ha : PD X Wx e ma) (hr : PAs X Wx es mr) (hs : starEach (e :: es) X.env = (false, eval e X.env) :: starEach es X.env := by rfl) : PAs X Wx (e :: es) (consA ma mr) := by
  refine PA_imp (pa_cons ha hr hs) fun σ H Q h => ?_
  obtain ⟨ρ, L, W, rl, p⟩ := h
  refine bd_D (T := PostA X.K Wx σ L W H Q) rl p fun x dx ρ1 W1 H1 st1 rl1 q1 p => ?_
  refine bd_A (T := PostA X.K Wx σ L W1 H1 Q) rl1 (PostA.step st1 p) fun xs ds ρ2 W2 H2 st2 rl2 q2 p => ?_
  exact p _ W2 H2 st2 rl2 (.cons (st2.rep q1) q2)
/-- keywords' values -/
def PKs (X : Cx) (Wx : WX) (kws : List Keyword) (m : M (List D)) : Prop := PK X kws (tA X.K Wx m)
theorem PK_imp {X : Cx} {e : List Keyword} {t t' : L2.TA} (h : PK X e t) (i : ∀ σ H Q, t' σ H Q → t σ H Q) : PK X e t' := ⟨fun p pins s σ H Q I q => h.run p pins s σ H Q I (i σ H Q q)⟩
theorem pxk_nil : PKs X Wx [] nilA := PK_imp pk_nil fun σ H Q h => by
  obtain ⟨ρ, L, W, rl, p⟩ := h
  exact p [] W H .refl rl .nil
theorem pxk_cons {nm : Option Str} {e : Expr} {kpos : Pos} {kws : List Keyword} {ma : M D} {mr : M (List D)} (ha : PD X Wx e ma) (hr : PKs X Wx kws mr) : PKs X Wx (⟨nm, e, kpos⟩ :: kws) (consA ma mr) := by
  refine PK_imp (pk_cons ha hr) fun σ H Q h => ?_
  obtain ⟨ρ, L, W, rl, p⟩ := h
  refine bd_D (T := PostA X.K Wx σ L W H Q) rl p fun x dx ρ1 W1 H1 st1 rl1 q1 p => ?_
  refine bd_A (T := PostA X.K Wx σ L W1 H1 Q) rl1 (PostA.step st1 p) fun xs ds ρ2 W2 H2 st2 rl2 q2 p => ?_
  exact p _ W2 H2 st2 rl2 (.cons (st2.rep q1) q2)
end

/-! ### what a def is worth -/
inductive FR where
  | ok (s : Slot)
  | er (e : Err)
  | stuck
@[simp] def FR.res (ρ : Env) : FR → Res Slot
  | .ok s => .ok s ρ
  | .er e => .er e ρ
  | .stuck => .stuck
def FRP (K : PySem.W.Frag) (L W : List Addr) (H : Hp) (Q : VK) (E : XK) : FR → Prop
  | .ok s => ∀ v W' H', Stp L W H W' H' → Rl K L W' [s] [some v] H' → Q v H'
  | .er e => ∀ c dd W' H', Stp L W H W' H' → (∀ a ∈ W', H' a ≠ none) → ErrRep K (hide H' (W' ++ L)) c dd e → E c dd H'
  | .stuck => False
/-- the promise of a def that computes f -/
def spP (K : PySem.W.Frag) (f : List D → FR) : Sp := fun vs H Q E => ∃ L ds, (∀ a ∈ L, H a ≠ none) ∧ Reps K (hide H L) vs ds ∧ FRP K L [] H Q E (f ds)
/-- behind a call: the callee's result beside the caller's slots -/
theorem Rl.join {K : PySem.W.Frag} {L W W' : List Addr} {ρ : Env} {σ : L2.St} {H H' : Hp} {s : Slot} {v : V} (r : Rl K L W ρ σ H) (st : Stp (L ++ W) [] H W' H') (q : Rl K (L ++ W) W' [s] [some v] H') :
    Rl K L (W' ++ W) (s :: ρ) (some v :: σ) H' ∧ Stp L W H (W' ++ W) H' := by
  have hh : ∀ G : Hp, hide G (W' ++ (L ++ W)) = hide G ((W' ++ W) ++ L) := fun G => hide_congr fun a => by
    simp only [List.mem_append]
    constructor
    · rintro (h | h | h)
      · exact .inl (.inl h)
      · exact .inr h
      · exact .inl (.inr h)
    · rintro ((h | h) | h)
      · exact .inl h
      · exact .inr (.inr h)
      · exact .inr (.inl h)
  have h0 : hide H ([] ++ (L ++ W)) = hide H (W ++ L) := hide_congr fun a => by simp only [List.mem_append, List.nil_append]; exact Or.comm
  have dw : ∀ a ∈ W, a ∉ W' := fun a h => q.dj a (by simp [h])
  have dl : ∀ a ∈ L, a ∉ W' := fun a h => q.dj a (by simp [h])
  have stp : Stp L W H (W' ++ W) H' := by
    refine ⟨?_, fun a h => ?_, fun a h => st.lk a (by simp [h])⟩
    · have e := st.ex
      rw [hh, h0] at e
      exact e
    · rcases List.mem_append.mp h with h | h
      · exact (st.new a h).elim (fun z => by simp at z) .inr
      · exact .inl h
  refine ⟨⟨?_, ?_, ?_, fun a h => by rw [st.lk a (by simp [h])]; exact r.lk a h⟩, stp⟩
  · have rr : RelE K (hide H' ((W' ++ W) ++ L)) H' W σ ρ := r.rel.mono stp.ex fun a h => st.lk a (by simp [h])
    have qq := q.rel
    rw [hh] at qq
    cases qq with
    | unb z => cases z with
      | nil => exact .unb rr
    | cons z1 z2 => cases z2 with
      | nil => rw [List.append_nil] at *; exact .cons z1 rr
  · exact List.nodup_append.mpr ⟨q.nd, r.nd, fun a ha b hb e => by subst e; exact dw a hb ha⟩
  · intro a ha z
    rcases List.mem_append.mp z with z | z
    · exact dl a ha z
    · exact r.dj a ha z
theorem Rl.joinE {K : PySem.W.Frag} {L W W' : List Addr} {ρ : Env} {σ : L2.St} {H H' : Hp} (r : Rl K L W ρ σ H) (st : Stp (L ++ W) [] H W' H') :
    Rl K L W ρ σ H' ∧ Stp L W H W H' ∧ Ex (hide H' (W' ++ (L ++ W))) (hide H' (W ++ L)) := by
  have h0 : hide H ([] ++ (L ++ W)) = hide H (W ++ L) := hide_congr fun a => by simp only [List.mem_append, List.nil_append]; exact Or.comm
  have e2 : Ex (hide H' (W' ++ (L ++ W))) (hide H' (W ++ L)) := hide_mono (Ex.refl _) fun a h => .inl (by simp only [List.mem_append] at h ⊢; rcases h with h | h <;> simp [h])
  have e := st.ex
  rw [h0] at e
  have e3 := e.trans e2
  exact ⟨⟨r.rel.mono e3 fun a h => st.lk a (by simp [h]), r.nd, r.dj, fun a h => by rw [st.lk a (by simp [h])]; exact r.lk a h⟩, ⟨e3, fun a h => .inl h, fun a h => st.lk a (by simp [h])⟩, e2⟩
section
variable {X : Cx} {Wx : WX} {K : PySem.W.Frag} {L W : List Addr} {ρ : Env} {σ : L2.St} {H : Hp} {Q : VK}
/-- the promise, from what is wanted of its value -/
theorem spP_use {f : List D → FR} {vs : List V} {ds : List D} (r : Rl K L W ρ σ H) (q : Reps K (hide H (W ++ L)) vs ds) (p : Post K Wx σ L W H Q ((f ds).res ρ)) : spP K f vs H Q fun c d H' => Wx c d σ H' := by
  have h0 : hide H (L ++ W) = hide H (W ++ L) := hide_congr fun a => by simp only [List.mem_append]; exact Or.comm
  refine ⟨L ++ W, ds, fun a h => r.alloc a (by simp only [List.mem_append] at h ⊢; exact h.symm), by rw [h0]; exact q, ?_⟩
  revert p
  cases f ds with
  | stuck => exact fun p => p
  | ok s => exact fun p v W' H' st rl => let z := r.join st rl; p v (W' ++ W) H' z.2 z.1
  | er e => exact fun p c dd W' H' st al er => let z := r.joinE st; p c dd W H' z.2.1 z.1 (er.mono z.2.2)
/-- the callee runs -/
theorem run_at {k : Nat} {f : Addr} {fd : FuncData} {ps : List Str} {sp : Sp} {pins : List (Addr × Obj)} {s : Shared} {us ws : List Value} {ks : List Str} {vs zs : List V} {n : Nat} {g : List Value → List Value → List Value} {gV : List V → List V → List V}
    (F : FnG X.prog X.w X.K X.mg X.base k f fd ps sp) (hr : Rm k X.A) (tk : Takes X Wx) (hb : KBn X.K fd ps n ks g gV) (I : Inv X pins σ H s) (r : Vals vs us) (rz : Vals zs ws) (l1 : vs.length = n) (l2 : zs.length = ks.length)
    (h : sp (gV vs zs) H Q fun c d H' => Wx c d σ H') : wpAny (model X.prog X.w) X.A (call (.ref f) us (ks.zip ws)) (EP X pins σ Q) X.xe s := by
  refine wpAny_call (codeAny_mono (F.run X.A X.stack s H ⟨us, ks.zip ws⟩ (g us ws) (gV vs zs) Q _ hr I.env0 (hb.to s us ws I.kIn (r.length.symm.trans l1) (rz.length.symm.trans l2)) (hb.rel r rz) h) fun r s' hq => ?_)
  cases r with
  | error e => exact passAt tk σ pins H s e s' I hq
  | ok fl =>
    cases fl with
    | ret u => exact I.after hq
    | next => exact hq.elim
    | brk => exact hq.elim
    | cont => exact hq.elim
end
/-- how the arguments come to the parameters: as data -/
structure KBd (K : PySem.W.Frag) (fd : FuncData) (ps : List Str) (n : Nat) (ks : List Str) (gD : List D → List D → List D) : Prop where
  ex : ∃ g gV, KBn K fd ps n ks g gV ∧ ∀ (G : Hp) (vs zs : List V) (ds es : List D), Reps K G vs ds → Reps K G zs es → Reps K G (gV vs zs) (gD ds es)
@[simp] def callM (f : List D → FR) (n m : Nat) (gD : List D → List D → List D) (ma mk : M (List D)) : M Slot := fun ρ => (ma ρ).bd fun ds ρ1 => (mk ρ1).bd fun es ρ2 =>
  if ds.length = n ∧ es.length = m then (f (gD ds es)).res ρ2 else .stuck
section
variable {X : Cx} {Wx : WX} {k n : Nat} {f : Addr} {fd : FuncData} {ps ks : List Str} {F : List D → FR} {x : Str} {p pos : Pos} {e : Expr} {es : List Expr} {kws : List Keyword} {ma mk : M (List D)} {gD : List D → List D → List D}
/-- f(e, ..) -/
theorem px_call (G : FnG X.prog X.w X.K X.mg X.base k f fd ps (spP X.K F)) (hr : Rm k X.A) (tk : Takes X Wx) (hb : KBd X.K fd ps n [] gD) (hm : X.mg x = some (.ref f)) (hk : PySem.W.keepIn X.K (.ref f) = true)
    (ha : PAs X Wx (e :: es) ma) (hg : Gl X x := by rfl) (hdb : (x == ("__debug__" : Str)) = false := by decide) (he : starEach (e :: es) X.env = (false, eval e X.env) :: starEach es X.env := by rfl) (hpl : (backTo pos (starEach es X.env)).any (·.1) = false := by rfl) :
    PX X Wx (.Call (.Name x p) (e :: es) [] pos) (callM F n 0 gD ma nilA) := by
  obtain ⟨g, gV, hb, hD⟩ := hb.ex
  refine ⟨fun pins s σ H Q I h => ?_⟩
  obtain ⟨ρ, L, W, rl, p⟩ := h
  refine wpAny_Call_Name_kw (ld_glob I hg hm ?_ hdb)
  have h := bd_A (T := Post X.K Wx σ L W H Q) (R := fun vs H1 => ∃ ds ρ1 W1, Rl X.K L W1 ρ1 σ H1 ∧ Reps X.K (hide H1 (W1 ++ L)) vs ds ∧ Post X.K Wx σ L W1 H1 Q (if ds.length = n ∧ ([] : List D).length = 0 then (F (gD ds [])).res ρ1 else .stuck)) rl p fun vs ds ρ1 W1 H1 st1 rl1 q1 p => ⟨ds, ρ1, W1, rl1, q1, p.step st1⟩
  refine PySem.W.callWith_K (h₀ := X.base) I.ok.mod.kin hk (thn (ha.run pos pins s σ H _ I h) fun us s1 ⟨vs, H1, I1, r, ds, ρ1, W1, rl1, q1, p⟩ => ⟨I1.kIn, ?_⟩) he hpl
  by_cases c : ds.length = n ∧ ([] : List D).length = 0
  · rw [if_pos c] at p
    exact run_at (ks := []) (ws := []) (zs := []) G hr tk hb I1 r .nil (q1.length.trans c.1) rfl (spP_use rl1 (hD _ _ _ _ _ q1 .nil) p)
  · rw [if_neg c] at p
    exact p.elim
theorem px_call0 (G : FnG X.prog X.w X.K X.mg X.base k f fd ps (spP X.K F)) (hr : Rm k X.A) (tk : Takes X Wx) (hb : KBd X.K fd ps 0 [] gD) (hm : X.mg x = some (.ref f)) (hk : PySem.W.keepIn X.K (.ref f) = true)
    (hg : Gl X x := by rfl) (hdb : (x == ("__debug__" : Str)) = false := by decide) :
    PX X Wx (.Call (.Name x p) [] [] pos) (callM F 0 0 gD nilA nilA) := by
  obtain ⟨g, gV, hb, hD⟩ := hb.ex
  refine ⟨fun pins s σ H Q I h => ?_⟩
  obtain ⟨ρ, L, W, rl, p⟩ := h
  refine wpAny_Call_Name_kw (ld_glob I hg hm ?_ hdb)
  exact PySem.W.callWith_K0 I.kIn hk (run_at (us := []) (vs := []) (ks := []) (ws := []) (zs := []) G hr tk hb I .nil .nil rfl rfl (spP_use rl (hD _ _ _ _ _ .nil .nil) p))
/-- f(e, .., k = v, ..) -/
theorem px_callK (G : FnG X.prog X.w X.K X.mg X.base k f fd ps (spP X.K F)) (hr : Rm k X.A) (tk : Takes X Wx) (hb : KBd X.K fd ps n ks gD) (hm : X.mg x = some (.ref f)) (hk : PySem.W.keepIn X.K (.ref f) = true)
    (ha : PAs X Wx (e :: es) ma) (hkw : PKs X Wx kws mk) (hall : (backToKw pos (keywordEach kws X.env)).all (·.1.isSome) = true := by rfl) (hks : (backToKw pos (keywordEach kws X.env)).filterMap (·.1) = ks := by rfl)
    (hg : Gl X x := by rfl) (hdb : (x == ("__debug__" : Str)) = false := by decide) (he : starEach (e :: es) X.env = (false, eval e X.env) :: starEach es X.env := by rfl)
    (hpl : ((backTo pos (starEach (e :: es) X.env)).any (·.1) || (backToKw pos (keywordEach kws X.env)).any (·.1.isNone)) = false := by rfl) :
    PX X Wx (.Call (.Name x p) (e :: es) kws pos) (callM F n ks.length gD ma mk) := by
  obtain ⟨g, gV, hb, hD⟩ := hb.ex
  refine ⟨fun pins s σ H Q I h => ?_⟩
  obtain ⟨ρ, L, W, rl, p⟩ := h
  refine wpAny_Call_Name_kw (ld_glob I hg hm ?_ hdb)
  have h := bd_A (T := Post X.K Wx σ L W H Q) (R := fun vs H1 => ∃ ds ρ1 W1, Rl X.K L W1 ρ1 σ H1 ∧ Reps X.K (hide H1 (W1 ++ L)) vs ds ∧ Post X.K Wx σ L W1 H1 Q ((mk ρ1).bd fun es ρ2 => if ds.length = n ∧ es.length = ks.length then (F (gD ds es)).res ρ2 else .stuck)) rl p fun vs ds ρ1 W1 H1 st1 rl1 q1 p => ⟨ds, ρ1, W1, rl1, q1, p.step st1⟩
  refine PySem.W.callWith_KW (h₀ := X.base) I.ok.mod.kin hk hall (thn (ha.run pos pins s σ H _ I h) fun us s1 ⟨vs, H1, I1, r, ds, ρ1, W1, rl1, q1, p⟩ => ?_) hpl he
  have h2 := bd_A (T := Post X.K Wx σ L W1 H1 Q) (R := fun zs H2 => ∃ es ρ2 W2, Rl X.K L W2 ρ2 σ H2 ∧ Reps X.K (hide H2 (W2 ++ L)) vs ds ∧ Reps X.K (hide H2 (W2 ++ L)) zs es ∧ Post X.K Wx σ L W2 H2 Q (if ds.length = n ∧ es.length = ks.length then (F (gD ds es)).res ρ2 else .stuck)) rl1 p fun zs es ρ2 W2 H2 st2 rl2 q2 p => ⟨es, ρ2, W2, rl2, st2.reps q1, q2, p.step st2⟩
  refine thn (hkw.run pos pins s1 σ H1 _ I1 h2) fun ws s2 ⟨zs, H2, I2, rz, es, ρ2, W2, rl2, q1, q2, p⟩ => ⟨I2.kIn, ?_⟩
  rw [hks]
  by_cases c : ds.length = n ∧ es.length = ks.length
  · rw [if_pos c] at p
    exact run_at G hr tk hb I2 r rz (q1.length.trans c.1) (q2.length.trans c.2) (spP_use rl2 (hD _ _ _ _ _ q1 q2) p)
  · rw [if_neg c] at p
    exact p.elim
/-- f(k = v, ..) -/
theorem px_callK0 (G : FnG X.prog X.w X.K X.mg X.base k f fd ps (spP X.K F)) (hr : Rm k X.A) (tk : Takes X Wx) (hb : KBd X.K fd ps 0 ks gD) (hm : X.mg x = some (.ref f)) (hk : PySem.W.keepIn X.K (.ref f) = true)
    (hkw : PKs X Wx kws mk) (hall : (backToKw pos (keywordEach kws X.env)).all (·.1.isSome) = true := by rfl) (hks : (backToKw pos (keywordEach kws X.env)).filterMap (·.1) = ks := by rfl)
    (hg : Gl X x := by rfl) (hdb : (x == ("__debug__" : Str)) = false := by decide)
    (hpl : ((backTo pos (starEach [] X.env)).any (·.1) || (backToKw pos (keywordEach kws X.env)).any (·.1.isNone)) = false := by rfl) :
    PX X Wx (.Call (.Name x p) [] kws pos) (callM F 0 ks.length gD nilA mk) := by
  obtain ⟨g, gV, hb, hD⟩ := hb.ex
  refine ⟨fun pins s σ H Q I h => ?_⟩
  obtain ⟨ρ, L, W, rl, p⟩ := h
  refine wpAny_Call_Name_kw (ld_glob I hg hm ?_ hdb)
  have p : Post X.K Wx σ L W H Q ((mk ρ).bd fun es ρ2 => if ([] : List D).length = 0 ∧ es.length = ks.length then (F (gD [] es)).res ρ2 else .stuck) := p
  have h2 := bd_A (T := Post X.K Wx σ L W H Q) (R := fun zs H2 => ∃ es ρ2 W2, Rl X.K L W2 ρ2 σ H2 ∧ Reps X.K (hide H2 (W2 ++ L)) zs es ∧ Post X.K Wx σ L W2 H2 Q (if ([] : List D).length = 0 ∧ es.length = ks.length then (F (gD [] es)).res ρ2 else .stuck)) rl p fun zs es ρ2 W2 H2 st2 rl2 q2 p => ⟨es, ρ2, W2, rl2, q2, p.step st2⟩
  refine PySem.W.callWith_KW0 (h₀ := X.base) I.ok.mod.kin hk hall (thn (hkw.run pos pins s σ H _ I h2) fun ws s2 ⟨zs, H2, I2, rz, es, ρ2, W2, rl2, q2, p⟩ => ⟨I2.kIn, ?_⟩) hpl
  rw [hks]
  by_cases c : ([] : List D).length = 0 ∧ es.length = ks.length
  · rw [if_pos c] at p
    exact run_at (us := []) (vs := []) G hr tk hb I2 .nil rz rfl (q2.length.trans c.2) (spP_use rl2 (hD _ _ _ _ _ .nil q2) p)
  · rw [if_neg c] at p
    exact p.elim
/-- frozen -/
@[simp] def fzM (m : M Slot) : M D := fun ρ => (m ρ).bd fun s ρ1 => ofO s.fz ρ1
theorem Rl.fz {K : PySem.W.Frag} {L W : List Addr} {ρ : Env} {σ : L2.St} {H : Hp} {s : Slot} {d : D} {v : V} (r : Rl K L W (s :: ρ) (some v :: σ) H) (e : s.fz = some d) : ∃ W', Stp L W H W' H ∧ Rl K L W' (.val d :: ρ) (some v :: σ) H := by
  obtain ⟨rel, nd, dj, lk⟩ := r
  cases rel with
  | unb _ => cases e
  | @cons f g _ _ _ _ q r =>
    have r0 : Rl K L (f ++ g) (s :: ρ) (some v :: σ) H := ⟨.cons q r, nd, dj, lk⟩
    have z := r0.less (A := []) (B := f) (C := g) (ρ' := .unb :: ρ) (σ' := some v :: σ) (by simp) (.unb r)
    refine ⟨g, z.2, ⟨.cons (f := []) (.val (q.fz z.2.ex (fun a ha => ?_) e)) (r.mono z.2.ex fun _ _ => rfl), z.1.nd, z.1.dj, lk⟩⟩
    refine hide_out fun m => ?_
    rcases List.mem_append.mp m with m | m
    · exact (List.nodup_append.mp nd).2.2 a ha a m rfl
    · exact dj a m (by simp [ha])
theorem px_fz {e : Expr} {m : M Slot} (h : PX X Wx e m) : PD X Wx e (fzM m) := by
  refine PE_imp h fun σ H Q h => ?_
  obtain ⟨ρ, L, W, rl, p⟩ := h
  simp only [vl, fzM, map_bd] at p
  refine bd_S (T := Post X.K Wx σ L W H Q) rl p fun x s ρ1 W1 H1 st1 rl1 p => ?_
  obtain ⟨d, e, p⟩ := Post.ofO p
  obtain ⟨W2, st2, rl2⟩ := rl1.fz e
  exact p x W2 H1 (st1.trans st2) rl2
end
end P
/-! The P-layer, 5: statements, loops. -/
namespace P
open PySem PySem.Spec PyProof.Rows L2

/-- other slots over the same heap, owning less -/
theorem Rl.sub {K : PySem.W.Frag} {L W W' : List Addr} {ρ ρ' : Env} {σ σ' : L2.St} {H : Hp} (r : Rl K L W ρ σ H) (h : RelE K (hide H (W ++ L)) H W' σ' ρ') (nd : W'.Nodup) (sub : ∀ a ∈ W', a ∈ W) : Rl K L W' ρ' σ' H ∧ Stp L W H W' H := by
  have ex : Ex (hide H (W ++ L)) (hide H (W' ++ L)) := hide_mono (Ex.refl _) fun a h => by
    simp only [List.mem_append] at h ⊢
    exact .inl (h.imp (sub a) id)
  exact ⟨⟨h.mono ex fun _ _ => rfl, nd, fun a ha q => r.dj a ha (sub a q), r.lk⟩, ⟨ex, fun a h => .inl (sub a h), fun _ _ => rfl⟩⟩
/-- the value at the top is stored at i -/
theorem Rl.store {K : PySem.W.Frag} {L W : List Addr} {ρ : Env} {σ : L2.St} {H : Hp} {s : Slot} {v : V} (i : Nat) (r : Rl K L W (s :: ρ) (some v :: σ) H) (hs : s ≠ .unb) : ∃ W', Stp L W H W' H ∧ Rl K L W' (ρ.set i s) (σ.set i (some v)) H := by
  have r0 := r
  obtain ⟨rel, nd, dj, lk⟩ := r
  cases rel with
  | unb _ => exact absurd rfl hs
  | @cons f g _ _ _ _ q r =>
    by_cases hi : i < ρ.length
    · obtain ⟨A, B, C, e, h⟩ := r.set i q hi
      subst e
      have z := r0.sub h ?_ (fun a ha => ?_)
      · exact ⟨_, z.2, z.1⟩
      · have p : (A ++ f ++ C).Perm (f ++ A ++ C) := List.Perm.append_right C List.perm_append_comm
        refine p.nodup_iff.mpr ?_
        refine nd.sublist ?_
        rw [List.append_assoc, List.append_assoc]
        refine List.Sublist.append_left (List.Sublist.append_left (List.sublist_append_right B C) A) f
      · simp only [List.mem_append] at ha ⊢
        rcases ha with (h | h) | h <;> simp [h]
    · have e1 : ρ.set i s = ρ := List.set_eq_of_length_le (by omega)
      have e2 : σ.set i (some v) = σ := List.set_eq_of_length_le (by rw [r.length]; omega)
      rw [e1, e2]
      have z := r0.sub r (List.nodup_append.mp nd).2.1 (fun a ha => by simp [ha])
      exact ⟨_, z.2, z.1⟩
/-- the value at the top is dropped -/
theorem Rl.dropTop {K : PySem.W.Frag} {L W : List Addr} {ρ : Env} {σ : L2.St} {H : Hp} {s : Slot} {v : V} (r : Rl K L W (s :: ρ) (some v :: σ) H) : ∃ W', Stp L W H W' H ∧ Rl K L W' ρ σ H := by
  have r0 := r
  obtain ⟨rel, nd, dj, lk⟩ := r
  cases rel with
  | unb q => have z := r0.sub q nd (fun a ha => ha); exact ⟨_, z.2, z.1⟩
  | cons q r => have z := r0.sub r (List.nodup_append.mp nd).2.1 (fun a ha => by simp [ha]); exact ⟨_, z.2, z.1⟩

/-! ### small statements -/
@[simp] def seqS (a b : S) : S := fun ρ => match a ρ with
  | .nx ρ1 => b ρ1
  | o => o
@[simp] def nop : S := fun ρ => .nx ρ
@[simp] def setS (i : Nat) (m : M Slot) : S := fun ρ => match m ρ with
  | .ok .unb _ => .stuck
  | .ok s ρ1 => .nx (ρ1.set i s)
  | .er e ρ1 => .er e ρ1
  | .stuck => .stuck
@[simp] def dropS (m : M Slot) : S := fun ρ => match m ρ with
  | .ok _ ρ1 => .nx ρ1
  | .er e ρ1 => .er e ρ1
  | .stuck => .stuck
@[simp] def retS (m : M Slot) : S := fun ρ => match m ρ with
  | .ok s ρ1 => .rt s ρ1
  | .er e ρ1 => .er e ρ1
  | .stuck => .stuck
@[simp] def retN : S := fun ρ => .rt (.val .non) ρ
@[simp] def ifS (c : M Bool) (a b : S) : S := fun ρ => match c ρ with
  | .ok k ρ1 => if k then a ρ1 else b ρ1
  | .er e ρ1 => .er e ρ1
  | .stuck => .stuck
@[simp] def brkS : S := fun ρ => .bk ρ
@[simp] def cntS : S := fun ρ => .ct ρ
section
variable {X : Cx} {Wx : WX} {J : List Nat}
theorem PostS.seq {K : PySem.W.Frag} {σ : L2.St} {L W : List Addr} {H : Hp} {E : Ends} {b : S} : ∀ {o : Out}, PostS K Wx J σ L W H E (match o with
    | .nx ρ1 => b ρ1
    | o => o) → PostS K Wx J σ L W H { E with nx := tS K Wx J b E } o
  | .nx ρ1, p => fun σ' W' H' ag st rl => ⟨ρ1, L, W', rl, p.step ag st⟩
  | .bk _, p => p
  | .ct _, p => p
  | .rt _ _, p => p
  | .er _ _, p => p
  | .stuck, p => p
theorem pst_nil : PSL X Wx J [] nop := PSs_imp pss_nil fun E σ H h => by
  obtain ⟨ρ, L, W, rl, p⟩ := h
  exact p σ W H .refl .refl rl
theorem pst_cons {st : Stmt} {rest : List Stmt} {a b : S} (h1 : PSt X Wx J st a) (h2 : PSL X Wx J rest b) : PSL X Wx J (st :: rest) (seqS a b) := PSs_imp (pss_cons h1 h2) fun E σ H h => by
  obtain ⟨ρ, L, W, rl, p⟩ := h
  exact ⟨ρ, L, W, rl, PostS.seq p⟩
theorem pst_one {st : Stmt} {a : S} (h1 : PSt X Wx J st a) : PSL X Wx J [st] a := pss_one h1
theorem pst_pass {pos : Pos} : PSt X Wx J (.Pass pos) nop := PS_imp ps_pass fun E σ H h => by
  obtain ⟨ρ, L, W, rl, p⟩ := h
  exact p σ W H .refl .refl rl
theorem pst_break {pos : Pos} : PSt X Wx J (.Break pos) brkS := PS_imp ps_break fun E σ H h => by
  obtain ⟨ρ, L, W, rl, p⟩ := h
  exact p σ W H .refl .refl rl
theorem pst_continue {pos : Pos} : PSt X Wx J (.Continue pos) cntS := PS_imp ps_continue fun E σ H h => by
  obtain ⟨ρ, L, W, rl, p⟩ := h
  exact p σ W H .refl .refl rl
theorem setS_eq (i : Nat) (m : M Slot) (ρ : Env) : setS i m ρ = Out.of ((m ρ).bd fun s ρ1 => match s with
    | .unb => .stuck
    | s => .ok (.nx (ρ1.set i s)) ρ1) := by
  unfold setS
  cases m ρ with
  | ok s ρ1 => cases s <;> rfl
  | er e ρ1 => rfl
  | stuck => rfl
theorem pst_set {i : Nat} {x : Str} {e : Expr} {m : M Slot} {pos pos' : Pos} (hN : X.N.Nodup) (he : PX X Wx e m) (hJ : J.contains i = false := by rfl) (hi : X.N[i]? = some x := by rfl) (hx : Loc X.env.scope x := by first | exact .inl rfl | exact .inr rfl) (hs : swapsWith e (some (.Name x pos')) pos.line X.env = pure false := by rfl)
    (hf : X.fn x = true ∨ X.env.scope.names.lookup x = some .local := by first | exact .inl rfl | exact .inr rfl | assumption) : PSt X Wx J (.Assign [.Name x pos'] e pos) (setS i m) := by
  refine PS_imp (ps_set hN hi hx he hs hf) fun E σ H h => ?_
  obtain ⟨ρ, L, W, rl, p⟩ := h
  rw [setS_eq] at p
  refine bd_S (T := fun r => PostS X.K Wx J σ L W H E (Out.of r)) rl p (fun v s ρ1 W1 H1 st1 rl1 p => ?_) id (fun e ρ' h c dd W' H' st r er => h c dd σ W' H' .refl st r er)
  have hs : s ≠ .unb := fun z => by subst z; exact p.elim
  obtain ⟨W2, st2, rl2⟩ := rl1.store i hs
  have p : PostS X.K Wx J σ L W H E (.nx (ρ1.set i s)) := by cases s <;> first | exact p | exact absurd rfl hs
  exact p _ W2 H1 ⟨by simp, fun j hj => List.getElem?_set_ne fun z => by subst z; simp [hj] at hJ⟩ (st1.trans st2) rl2
theorem pst_expr {e : Expr} {m : M Slot} {pos : Pos} (he : PX X Wx e m) (hs : swapsWith e none pos.line X.env = pure false := by rfl) : PSt X Wx J (.Expr e pos) (dropS m) := by
  refine PS_imp (ps_expr he hs) fun E σ H h => ?_
  obtain ⟨ρ, L, W, rl, p⟩ := h
  have p : PostS X.K Wx J σ L W H E (Out.of ((m ρ).bd fun s ρ1 => .ok (.nx ρ1) ρ1)) := by
    revert p; show PostS X.K Wx J σ L W H E (dropS m ρ) → _; unfold dropS; cases m ρ <;> exact id
  refine bd_S (T := fun r => PostS X.K Wx J σ L W H E (Out.of r)) rl p (fun v s ρ1 W1 H1 st1 rl1 p => ?_) id (fun e ρ' h c dd W' H' st r er => h c dd σ W' H' .refl st r er)
  obtain ⟨W2, st2, rl2⟩ := rl1.dropTop
  exact p _ W2 H1 .refl (st1.trans st2) rl2
theorem pst_ret {e : Expr} {m : M Slot} {pos : Pos} (he : PX X Wx e m) : PSt X Wx J (.Return (some e) pos) (retS m) := by
  refine PS_imp (ps_ret he) fun E σ H h => ?_
  obtain ⟨ρ, L, W, rl, p⟩ := h
  have p : PostS X.K Wx J σ L W H E (Out.of ((m ρ).bd fun s ρ1 => .ok (.rt s ρ1) ρ1)) := by
    revert p; show PostS X.K Wx J σ L W H E (retS m ρ) → _; unfold retS; cases m ρ <;> exact id
  refine bd_S (T := fun r => PostS X.K Wx J σ L W H E (Out.of r)) rl p (fun v s ρ1 W1 H1 st1 rl1 p => ?_) id (fun e ρ' h c dd W' H' st r er => h c dd σ W' H' .refl st r er)
  exact p v σ W1 H1 .refl st1 rl1
theorem pst_retN {pos : Pos} : PSt X Wx J (.Return none pos) retN := PS_imp ps_retN fun E σ H h => by
  obtain ⟨ρ, L, W, rl, p⟩ := h
  exact p .non σ W H .refl .refl (rl.push .non)
theorem pst_if {c : Expr} {as bs : List Stmt} {mc : M Bool} {a b : S} {pos : Pos} (hc : PB X Wx c mc) (ha : PSL X Wx J as a) (hb : PSL X Wx J bs b) : PSt X Wx J (.If c as bs pos) (ifS mc a b) := by
  refine PS_imp (ps_if hc ha hb) fun E σ H h => ?_
  obtain ⟨ρ, L, W, rl, p⟩ := h
  have p : PostS X.K Wx J σ L W H E (Out.of ((mc ρ).bd fun k ρ1 => .ok (if k then a ρ1 else b ρ1) ρ1)) := by
    revert p; show PostS X.K Wx J σ L W H E (ifS mc a b ρ) → _; unfold ifS; cases mc ρ <;> exact id
  refine bd_B (T := fun r => PostS X.K Wx J σ L W H E (Out.of r)) rl p (fun k ρ1 W1 H1 st1 rl1 p => ?_) id (fun e ρ' h c dd W' H' st r er => h c dd σ W' H' .refl st r er)
  cases k with
  | true => exact iteT ⟨ρ1, L, W1, rl1, PostS.step .refl st1 p⟩
  | false => exact iteF ⟨ρ1, L, W1, rl1, PostS.step .refl st1 p⟩

/-! ### loops -/
/-- the end of a turn: k goes on -/
@[simp] def lpO (k : S) : Out → Out
  | .nx ρ => k ρ
  | .ct ρ => k ρ
  | .bk ρ => .nx ρ
  | .rt s ρ => .rt s ρ
  | .er e ρ => .er e ρ
  | .stuck => .stuck
def whileS (c : M Bool) (body : S) : Nat → S
  | 0, _ => .stuck
  | n + 1, ρ => Out.of ((c ρ).bd fun b ρ1 => .ok (if b then lpO (whileS c body n) (body ρ1) else .nx ρ1) ρ1)
def forL (b : D → Env → Option Env) (body : S) : List D → S
  | [], ρ => .nx ρ
  | d :: ds, ρ => match b d ρ with
    | none => .stuck
    | some ρ1 => lpO (forL b body ds) (body ρ1)
theorem forL_nil (b : D → Env → Option Env) (body : S) (ρ : Env) : forL b body [] ρ = .nx ρ := rfl
theorem forL_cons (b : D → Env → Option Env) (body : S) (d : D) (ds : List D) (ρ : Env) : forL b body (d :: ds) ρ = match b d ρ with
    | none => .stuck
    | some ρ1 => lpO (forL b body ds) (body ρ1) := rfl
theorem PostS.loop {K : PySem.W.Frag} {σ : L2.St} {L W : List Addr} {H : Hp} {E : Ends} {k : S} {N : L2.St → Hp → Prop} (hN : ∀ ρ' σ' W' H', Ag J σ σ' → Stp L W H W' H' → Rl K L W' ρ' σ' H' → PostS K Wx J σ' L W' H' E (k ρ') → N σ' H') :
    ∀ {o : Out}, PostS K Wx J σ L W H E (lpO k o) → PostS K Wx J σ L W H { E with nx := N, ct := N, bk := E.nx } o
  | .nx ρ, p => fun σ' W' H' ag st rl => hN ρ σ' W' H' ag st rl (PostS.step ag st p)
  | .ct ρ, p => fun σ' W' H' ag st rl => hN ρ σ' W' H' ag st rl (PostS.step ag st p)
  | .bk _, p => p
  | .rt _ _, p => p
  | .er _ _, p => p
  | .stuck, p => p
@[simp] def forS (mi : M (List D)) (b : D → Env → Option Env) (body : S) : S := fun ρ => match mi ρ with
  | .ok ds ρ1 => forL b body ds ρ1
  | .er e ρ1 => .er e ρ1
  | .stuck => .stuck
theorem pst_while {c : Expr} {body : List Stmt} {mc : M Bool} {b : S} {pos : Pos} (n : Nat) (hp : PassesOwn (model X.prog X.w) X.A X.env X.xe) (hc : PB X Wx c mc) (hb : PSL X Wx J body b) : PSt X Wx J (.While c body [] pos) (whileS mc b n) := by
  refine PS_imp (ps_while hp hc hb) fun E σ H h => ?_
  obtain ⟨ρ, L, W, rl, p⟩ := h
  refine ⟨fun m σ' H' => ∃ ρ' W', Ag J σ σ' ∧ Stp L W H W' H' ∧ Rl X.K L W' ρ' σ' H' ∧ PostS X.K Wx J σ' L W' H' E (whileS mc b m ρ'), ⟨n, ρ, W, .refl, .refl, rl, p⟩, fun m σ1 H1 ⟨ρ1, W1, ag1, st1, rl1, p⟩ => ?_⟩
  cases m with
  | zero => exact p.elim
  | succ m =>
    refine bd_B (T := fun r => PostS X.K Wx J σ1 L W1 H1 E (Out.of r)) rl1 p (fun k ρ2 W2 H2 st2 rl2 p => ?_) id (fun e ρ' h c dd W' H' st r er => h c dd σ1 W' H' .refl st r er)
    cases k with
    | false => exact iteF (p _ W2 H2 .refl st2 rl2)
    | true => exact iteT ⟨fun σ' H' => ∃ ρ' W', Ag J σ σ' ∧ Stp L W H W' H' ∧ Rl X.K L W' ρ' σ' H' ∧ PostS X.K Wx J σ' L W' H' E (whileS mc b m ρ'), fun σ' H' h => ⟨m, Nat.lt_succ_self m, h⟩, ρ2, L, W2, rl2,
        PostS.loop (fun ρ' σ' W' H' ag st rl p => ⟨ρ', W', ag1.trans ag, st1.trans (st2.trans st), rl, p⟩) (PostS.step (r := lpO (whileS mc b m) (b ρ2)) .refl st2 p)⟩
/-- what a loop walks: the items, whatever happens meanwhile -/
def ItOk (K : PySem.W.Frag) (L W0 : List Addr) (H0 : Hp) (J : It) (ds : List D) : Prop := ∀ W H, Stp L W0 H0 W H → (∀ a ∈ W ++ L, H a ≠ none) →
  (∀ i, ds.length ≤ i → J.stop i H) ∧ ∀ i d, ds[i]? = some d → J.go i H ∧ ∀ x H', J.yld i H x H' → Ex H H' ∧ Rep K (hide H' (W ++ L)) x d
def PostI (K : PySem.W.Frag) (Wx : WX) (σ : L2.St) (L W : List Addr) (H : Hp) (R : It → Hp → Prop) : Res (List D) → Prop
  | .ok ds ρ' => ∀ J W' H', Stp L W H W' H' → Rl K L W' ρ' σ H' → ItOk K L W' H' J ds → R J H'
  | .er e ρ' => ∀ c dd W' H', Stp L W H W' H' → Rl K L W' ρ' σ H' → ErrRep K (hide H' (W' ++ L)) c dd e → Wx c dd σ H'
  | .stuck => False
def tI (K : PySem.W.Frag) (Wx : WX) (m : M (List D)) : TI := fun σ H R => ∃ ρ L W, Rl K L W ρ σ H ∧ PostI K Wx σ L W H R (m ρ)
def PIt (X : Cx) (Wx : WX) (tg iter : Expr) (m : M (List D)) : Prop := PI X tg iter (tI X.K Wx m)
/-- a target -/
def But (js : List Nat) (σ σ' : L2.St) : Prop := σ'.length = σ.length ∧ ∀ j, j ∉ js → σ'[j]? = σ[j]?
theorem But.trans {js ks : List Nat} {σ σ1 σ2 : L2.St} (a : But js σ σ1) (b : But ks σ1 σ2) : But (js ++ ks) σ σ2 := ⟨b.1.trans a.1, fun j h => by
  simp only [List.mem_append, not_or] at h
  exact (b.2 j h.2).trans (a.2 j h.1)⟩
/-- js: the slots that it stores -/
def tG (K : PySem.W.Frag) (b : D → Env → Option Env) (js : List Nat) : TG := fun v σ H Q => ∃ ρ L W d, Rl K L W ρ σ H ∧ Rep K (hide H (W ++ L)) v d ∧ ∃ ρ', b d ρ = some ρ' ∧ ∀ σ' W', Stp L W H W' H → Rl K L W' ρ' σ' H → But js σ σ' → Q σ' H
def PGt (X : Cx) (tg : Expr) (b : D → Env → Option Env) (js : List Nat) : Prop := PG X tg (tG X.K b js)
theorem pst_for {tg iter : Expr} {body : List Stmt} {mi : M (List D)} {bd : D → Env → Option Env} {js : List Nat} {b : S} {pos : Pos} (hp : PassesOwn (model X.prog X.w) X.A X.env X.xe) (hc : X.calm = true) (hi : PIt X Wx tg iter mi) (hg : PGt X tg bd js) (hb : PSL X Wx J body b) (hJ : js.all (fun j => !J.contains j) = true := by rfl)
    (hs : ∀ x, foldedSetIterable iter X.env x = pure x := by intro _; rfl) : PSt X Wx J (.For tg iter body [] pos) (forS mi bd b) := by
  refine PS_imp (ps_for hp hc hi hg hb hs) fun E σ H h => ?_
  obtain ⟨ρ, L, W, rl, p⟩ := h
  refine ⟨ρ, L, W, rl, ?_⟩
  revert p
  show PostS X.K Wx J σ L W H E (forS mi bd b ρ) → _
  unfold forS
  cases mi ρ with
  | stuck => exact id
  | er e ρ' => exact fun p c dd W' H' st r er => p c dd σ W' H' .refl st r er
  | ok ds ρ1 =>
    intro p Jt W1 H1 st1 rl1 it
    refine ⟨fun i m σ' H' => ∃ ρ' W', m = ds.length - i ∧ Ag J σ σ' ∧ Stp L W1 H1 W' H' ∧ Rl X.K L W' ρ' σ' H' ∧ PostS X.K Wx J σ' L W' H' E (forL bd b (ds.drop i) ρ'), ⟨ds.length, ρ1, W1, rfl, .refl, .refl, rl1, PostS.step .refl st1 p⟩, fun i m σ2 H2 ⟨ρ2, W2, hm, ag2, st2, rl2, p⟩ => ?_⟩
    obtain ⟨h1, h2⟩ := it W2 H2 st2 rl2.alloc
    by_cases hl : i < ds.length
    · have hd : ds.drop i = ds[i] :: ds.drop (i + 1) := List.drop_eq_getElem_cons hl
      rw [hd] at p
      obtain ⟨go, yl⟩ := h2 i ds[i] (List.getElem?_eq_getElem hl)
      refine .inr ⟨go, fun σ' H' => ∃ ρ' W', Ag J σ σ' ∧ Stp L W1 H1 W' H' ∧ Rl X.K L W' ρ' σ' H' ∧ PostS X.K Wx J σ' L W' H' E (forL bd b (ds.drop (i + 1)) ρ'), fun σ' H' ⟨ρ', W', a0, a1, a2, a3⟩ => ⟨m - 1, by omega, ρ', W', by omega, a0, a1, a2, a3⟩, fun x H3 hy => ?_⟩
      obtain ⟨ex, q⟩ := yl x H3 hy
      have rl3 := rl2.ex ex
      have p : PostS X.K Wx J σ2 L W2 H3 E (forL bd b (ds[i] :: ds.drop (i + 1)) ρ2) := PostS.step .refl (rl2.stp ex) p
      have st3 := st2.trans (rl2.stp ex)
      rw [forL_cons] at p
      cases e : bd ds[i] ρ2 with
      | none => rw [e] at p; exact p.elim
      | some ρ3 =>
        rw [e] at p
        exact ⟨ρ2, L, W2, ds[i], rl3, q, ρ3, e, fun σ4 W4 st4 rl4 bt => by
          have ag4 : Ag J σ2 σ4 := ⟨bt.1, fun j hj => bt.2 j fun z => by
            have := List.all_eq_true.mp hJ j z
            simp [hj] at this⟩
          exact ⟨ρ3, L, W4, rl4, PostS.loop (fun ρ' σ' W' H' ag st rl p => ⟨ρ', W', ag2.trans (ag4.trans ag), st3.trans (st4.trans st), rl, p⟩) (PostS.step (r := lpO (forL bd b (ds.drop (i + 1))) (b ρ3)) ag4 st4 p)⟩⟩
    · have hd : ds.drop i = [] := List.drop_eq_nil_of_le (by omega)
      rw [hd] at p
      exact .inl ⟨h1 i (by omega), p σ2 W2 H2 .refl .refl rl2⟩
/-! ### targets -/
@[simp] def bName (i : Nat) : D → Env → Option Env := fun d ρ => some (ρ.set i (.val d))
def bList : List (D → Env → Option Env) → List D → Env → Option Env
  | [], [], ρ => some ρ
  | b :: bs, d :: ds, ρ => (b d ρ).bind (bList bs ds)
  | _, _, _ => none
@[simp] def bTup (bs : List (D → Env → Option Env)) : D → Env → Option Env
  | .tup ds, ρ => bList bs ds ρ
  | _, _ => none
theorem pgt_name {i : Nat} {x : Str} {pos : Pos} (hN : X.N.Nodup) (hi : X.N[i]? = some x := by rfl) (hx : Loc X.env.scope x := by first | exact .inl rfl | exact .inr rfl) (hf : X.fn x = true ∨ X.env.scope.names.lookup x = some .local := by first | exact .inl rfl | exact .inr rfl | assumption) : PGt X (.Name x pos) (bName i) [i] := by
  refine ⟨fun pins s σ H v u Q I r h => (pg_name hN hi hx hf).run pins s σ H v u Q I r ?_⟩
  obtain ⟨ρ, L, W, d, rl, q, ρ', e, k⟩ := h
  cases e
  obtain ⟨W2, st2, rl2⟩ := (rl.push q).store i (by simp)
  exact k _ W2 st2 rl2 ⟨by simp, fun j h => List.getElem?_set_ne fun z => h (by simp [z])⟩
def tGs (K : PySem.W.Frag) (bs : List (D → Env → Option Env)) (js : List Nat) : TGs := fun vs σ H Q => ∃ ρ L W ds, Rl K L W ρ σ H ∧ Reps K (hide H (W ++ L)) vs ds ∧ ∃ ρ', bList bs ds ρ = some ρ' ∧ ∀ σ' W', Stp L W H W' H → Rl K L W' ρ' σ' H → But js σ σ' → Q σ' H
def PGts (X : Cx) (ts : List Expr) (bs : List (D → Env → Option Env)) (js : List Nat) : Prop := PGs X ts (tGs X.K bs js)
theorem pgts_nil : PGts X [] [] [] := by
  refine ⟨fun pins s σ H vs us Q I r h => pgs_nil.run pins s σ H vs us Q I r ?_⟩
  obtain ⟨ρ, L, W, ds, rl, q, ρ', e, k⟩ := h
  cases ds with
  | nil => cases q; cases e; exact ⟨rfl, k σ W .refl rl ⟨rfl, fun _ _ => rfl⟩⟩
  | cons d ds => cases e
theorem pgts_cons {e : Expr} {es : List Expr} {b : D → Env → Option Env} {bs : List (D → Env → Option Env)} {js ks : List Nat} (h1 : PGt X e b js) (h2 : PGts X es bs ks)
    (hs : (assignEach (e :: es) X.env).map (·.2) = assign e X.env :: (assignEach es X.env).map (·.2) := by rfl) : PGts X (e :: es) (b :: bs) (js ++ ks) := by
  refine ⟨fun pins s σ H vs us Q I r h => (pgs_cons h1 h2 hs).run pins s σ H vs us Q I r ?_⟩
  obtain ⟨ρ, L, W, ds, rl, q, ρ', e, k⟩ := h
  cases ds with
  | nil => cases e
  | cons d ds =>
    cases q with
    | cons q1 q2 =>
      have e : (b d ρ).bind (bList bs ds) = some ρ' := e
      cases e1 : b d ρ with
      | none => rw [e1] at e; cases e
      | some ρ1 =>
        rw [e1] at e
        exact ⟨_, _, rfl, ρ, L, W, d, rl, q1, ρ1, e1, fun σ1 W1 st1 rl1 b1 => ⟨ρ1, L, W1, ds, rl1, st1.reps q2, ρ', e, fun σ2 W2 st2 rl2 b2 => k σ2 W2 (st1.trans st2) rl2 (b1.trans b2)⟩⟩
theorem pgt_tup {es : List Expr} {kk : Nat} {bs : List (D → Env → Option Env)} {js : List Nat} {n : Nat} {pos : Pos} (hc : X.calm = true) (h : PGts X es bs js) (hb : bs.length = n := by rfl)
    (hn : (assignEach es X.env).length = n := by rfl) (hst : (assignEach es X.env).findIdx? (·.1) = none := by rfl) : PGt X (.Tuple es kk pos) (bTup bs) js := by
  refine ⟨fun pins s σ H v u Q I r hq => (pg_tup hc h hn hst).run pins s σ H v u Q I r ?_⟩
  obtain ⟨ρ, L, W, d, rl, q, ρ', e, k⟩ := hq
  cases d with
  | tup ds =>
    have e : bList bs ds ρ = some ρ' := e
    have len : ∀ (bs : List (D → Env → Option Env)) (ds : List D) (ρ ρ' : Env), bList bs ds ρ = some ρ' → ds.length = bs.length := by
      intro bs
      induction bs with
      | nil => intro ds ρ ρ' e; cases ds with
        | nil => rfl
        | cons _ _ => cases e
      | cons b bs ih => intro ds ρ ρ' e; cases ds with
        | nil => cases e
        | cons d ds =>
          have e : (b d ρ).bind (bList bs ds) = some ρ' := e
          cases e1 : b d ρ with
          | none => rw [e1] at e; cases e
          | some ρ1 => rw [e1] at e; exact congrArg (· + 1) (ih ds ρ1 ρ' e)
    cases q with
    | tup hq rs => exact ⟨_, _, rfl, ex_t hide_ex hq, rs.length.trans ((len _ _ _ _ e).trans hb), ρ, L, W, ds, rl, rs, ρ', e, k⟩
  | _ => cases e
end
end P
/-! The P-layer, 6: list comprehensions; defs. -/
namespace P
open PySem PySem.Spec PyProof.Rows L2

/-! ### the slots of a comprehension's own names -/
@[simp] def wipeP (ρ : Env) : List Nat → Env
  | [] => ρ
  | v :: vs => (wipeP ρ vs).set v .unb
@[simp] def restP (ρ0 ρ : Env) : List Nat → Env
  | [] => ρ
  | v :: vs => match ρ0[v]? with
    | some (.val d) => (restP ρ0 ρ vs).set v (.val d)
    | _ => restP ρ0 ρ vs
section
variable {K : PySem.W.Frag} {L W : List Addr} {ρ : Env} {σ : L2.St} {H : Hp}
theorem Rl.drop (r : Rl K L W ρ σ H) (i : Nat) (o : Option V) : ∃ W', Stp L W H W' H ∧ Rl K L W' (ρ.set i .unb) (σ.set i o) H := by
  obtain ⟨A, B, C, e, h⟩ := r.rel.drop i o
  have z := r.less e h
  exact ⟨_, z.2, z.1⟩
theorem Rl.wipe (r : Rl K L W ρ σ H) : ∀ vs : List Nat, ∃ W', Stp L W H W' H ∧ Rl K L W' (wipeP ρ vs) (L2.wipe σ vs) H
  | [] => ⟨W, .refl, r⟩
  | v :: vs => by
    obtain ⟨W1, st1, r1⟩ := Rl.wipe r vs
    obtain ⟨W2, st2, r2⟩ := r1.drop v none
    exact ⟨W2, st1.trans st2, r2⟩
/-- a slot that is not asked may hold anything -/
theorem RelE.loose {G : Hp} : ∀ {W : List Addr} {σ : L2.St} {ρ : Env} (i : Nat) {o o' : Option V}, RelE K G H W (σ.set i o) ρ → (∀ s, ρ[i]? = some s → s = .unb) → σ[i]? = some o' → RelE K G H W σ ρ
  | _, [], _, i, _, _, r, _, e => by simp at e
  | _, a :: σ, _, 0, _, _, r, n, e => by
    cases r with
    | unb r => exact .unb r
    | cons h r => have := n _ rfl; subst this; cases h
  | _, a :: σ, _, i + 1, o, o', r, n, e => by
    rw [List.set_cons_succ] at r
    cases r with
    | unb r => exact .unb (RelE.loose i r (fun s hs => n s (by simpa using hs)) (o' := o') (by simpa using e))
    | cons h r => exact .cons h (RelE.loose i r (fun s hs => n s (by simpa using hs)) (o' := o') (by simpa using e))
theorem wipeP_length (ρ : Env) : ∀ vs, (wipeP ρ vs).length = ρ.length
  | [] => rfl
  | v :: vs => by simp [wipeP, wipeP_length ρ vs]
theorem wipe_get_ne {σ : L2.St} {i : Nat} : ∀ {vs : List Nat}, i ∉ vs → (L2.wipe σ vs)[i]? = σ[i]?
  | [], _ => rfl
  | v :: vs, h => by
    have h1 : i ≠ v := fun z => h (by simp [z])
    have h2 : i ∉ vs := fun z => h (by simp [z])
    unfold L2.wipe
    rw [List.getElem?_set_ne (Ne.symm h1), wipe_get_ne h2]
/-- the slots get back what they held -/
theorem Rl.rest {L0 W0 : List Addr} {ρ0 : Env} {H0 : Hp} (r0 : Rl K L0 W0 ρ0 σ H0) : ∀ (vs : List Nat) {W : List Addr} {ρ : Env} {H : Hp}, Ex (hide H0 (W0 ++ L0)) (hide H (W ++ L)) → Rl K L W (wipeP ρ vs) (L2.wipe σ vs) H → ∃ W', Stp L W H W' H ∧ Rl K L W' (restP ρ0 (wipeP ρ vs) vs) σ H
  | [], W, ρ, H, _, r => ⟨W, .refl, r⟩
  | v :: vs, W, ρ, H, st, r => by
    -- the slot v first, then the others
    have base : ∃ W', Stp L W H W' H ∧ Rl K L W' (wipeP (ρ.set v .unb) vs) (L2.wipe σ vs) H ∧ (wipeP (ρ.set v .unb) vs) = wipeP ρ (v :: vs) := by
      have hc : ∀ (vs : List Nat) (ρ : Env), wipeP (ρ.set v .unb) vs = (wipeP ρ vs).set v .unb := by
        intro vs
        induction vs with
        | nil => intro ρ; rfl
        | cons u us ih =>
          intro ρ
          simp only [wipeP, ih]
          by_cases e : u = v
          · subst e; simp
          · exact List.set_comm _ _ (Ne.symm e)
      refine ⟨W, .refl, ?_, hc vs ρ⟩
      rw [hc vs ρ]
      have hr : RelE K (hide H (W ++ L)) H W ((L2.wipe σ vs).set v none) ((wipeP ρ vs).set v .unb) := r.rel
      have hl : (L2.wipe σ vs).length = (wipeP ρ vs).length := by simpa using hr.length
      by_cases hv : v < (L2.wipe σ vs).length
      · refine ⟨hr.loose v (o' := (L2.wipe σ vs)[v]) (fun s hs => ?_) (List.getElem?_eq_getElem hv), r.nd, r.dj, r.lk⟩
        rw [List.getElem?_set_self (by omega)] at hs
        exact (Option.some.inj hs).symm
      · have e1 : (L2.wipe σ vs).set v none = L2.wipe σ vs := List.set_eq_of_length_le (by omega)
        rw [e1] at hr
        exact ⟨hr, r.nd, r.dj, r.lk⟩
    obtain ⟨W1, st1, r1, e1⟩ := base
    obtain ⟨W2, st2, r2⟩ := Rl.rest r0 vs (st.trans st1.ex) r1
    rw [e1] at r2
    simp only [restP]
    split
    · rename_i d hd
      obtain ⟨x, hx, q⟩ := r0.var hd
      have q2 := q.mono ((st.trans st1.ex).trans st2.ex)
      obtain ⟨W3, st3, r3⟩ := (r2.push q2).store v (by simp)
      rw [show σ.set v (some x) = σ from by
        apply List.ext_getElem?
        intro j
        by_cases e : v = j
        · subst e
          have : v < σ.length := (List.getElem?_eq_some_iff.mp hx).1
          rw [List.getElem?_set_self this, hx]
        · rw [List.getElem?_set_ne e]] at r3
      exact ⟨W3, (st1.trans st2).trans st3, r3⟩
    · exact ⟨W2, st1.trans st2, r2⟩
end
/-! ### list comprehensions -/
def WX0 : WX := fun _ _ _ _ => False
def lcL (vs : List Nat) (b : D → Env → Option Env) (t : M Bool) (m : M D) : List D → Env → Res (List D)
  | [], ρ => .ok [] ρ
  | d :: ds, ρ => match b d ρ with
    | none => .stuck
    | some ρ1 => (match t ρ1 with
      | .ok true ρ2 => (match m ρ2 with
        | .ok e ρ3 => (lcL vs b t m ds (wipeP ρ3 vs)).map (e :: ·)
        | _ => .stuck)
      | .ok false ρ2 => lcL vs b t m ds (wipeP ρ2 vs)
      | _ => .stuck)
@[simp] def yesM : M Bool := fun ρ => .ok true ρ
@[simp] def lcM (vs : List Nat) (mi : M (List D)) (b : D → Env → Option Env) (t : M Bool) (m : M D) : M Slot := fun ρ => (mi ρ).bd fun ds ρ1 =>
  if ds.length ≤ 16777216 then (lcL vs b t m ds (wipeP ρ1 vs)).bd fun es ρ2 => .ok (.ownL (es.map .val)) (restP ρ1 ρ2 vs) else .stuck
theorem lcL_len {vs : List Nat} {b : D → Env → Option Env} {t : M Bool} {m : M D} : ∀ {ds : List D} {ρ ρ' : Env} {es : List D}, lcL vs b t m ds ρ = .ok es ρ' → es.length ≤ ds.length
  | [], ρ, ρ', es, h => by cases h; exact Nat.le_refl _
  | d :: ds, ρ, ρ', es, h => by
    unfold lcL at h
    split at h
    · cases h
    · split at h
      · split at h
        · rename_i e ρ3 _
          cases q : lcL vs b t m ds (wipeP ρ3 vs) with
          | ok es' ρ'' => rw [q] at h; cases h; have := lcL_len q; simp; omega
          | er _ _ => rw [q] at h; cases h
          | stuck => rw [q] at h; cases h
        · cases h
      · have := lcL_len h; simp; omega
      · cases h
theorem lcL_ner {vs : List Nat} {b : D → Env → Option Env} {t : M Bool} {m : M D} : ∀ (ds : List D) (ρ ρ' : Env) (e : Err), lcL vs b t m ds ρ ≠ .er e ρ'
  | [], ρ, ρ', e => fun h => by cases h
  | d :: ds, ρ, ρ', e => fun h => by
    unfold lcL at h
    split at h
    · cases h
    · split at h
      · split at h
        · rename_i e3 ρ3 _
          cases q : lcL vs b t m ds (wipeP ρ3 vs) with
          | ok es' ρ'' => rw [q] at h; cases h
          | er _ _ => exact lcL_ner ds _ _ _ q
          | stuck => rw [q] at h; cases h
        · cases h
      · exact lcL_ner ds _ _ _ h
      · cases h
/-- one turn -/
theorem lcL_turn {vs : List Nat} {b : D → Env → Option Env} {t : M Bool} {m : M D} {d : D} {ds : List D} {ρ ρ' : Env} {es : List D} (h : lcL vs b t m (d :: ds) ρ = .ok es ρ') :
    ∃ ρ1, b d ρ = some ρ1 ∧ ((∃ ρ2 e ρ3 es', t ρ1 = .ok true ρ2 ∧ m ρ2 = .ok e ρ3 ∧ es = e :: es' ∧ lcL vs b t m ds (wipeP ρ3 vs) = .ok es' ρ') ∨ ∃ ρ2, t ρ1 = .ok false ρ2 ∧ lcL vs b t m ds (wipeP ρ2 vs) = .ok es ρ') := by
  unfold lcL at h
  split at h
  · cases h
  · rename_i ρ1 hb
    refine ⟨ρ1, hb, ?_⟩
    split at h
    · rename_i ρ2 ht
      split at h
      · rename_i e3 ρ3 hm
        cases q : lcL vs b t m ds (wipeP ρ3 vs) with
        | ok es' ρ'' => rw [q] at h; cases h; exact .inl ⟨ρ2, e3, ρ3, es', ht, hm, rfl, q⟩
        | er _ _ => rw [q] at h; cases h
        | stuck => rw [q] at h; cases h
      · cases h
    · rename_i ρ2 ht; exact .inr ⟨ρ2, ht, h⟩
    · cases h
/-- the environment behind a turn is wiped -/
theorem wipeP_idem (ρ : Env) : ∀ vs, ∀ us, (∀ v ∈ vs, v ∈ us) → wipeP (wipeP ρ us) vs = wipeP ρ us := by
  have one : ∀ (us : List Nat) (ρ : Env) (v : Nat), v ∈ us → (wipeP ρ us).set v .unb = wipeP ρ us := by
    intro us
    induction us with
    | nil => intro ρ v h; simp at h
    | cons u us ih =>
      intro ρ v h
      simp only [wipeP]
      by_cases e : v = u
      · subst e; simp
      · rw [List.set_comm _ _ (Ne.symm e), ih ρ v ((List.mem_cons.mp h).resolve_left e)]
  intro vs
  induction vs with
  | nil => intro us _; rfl
  | cons v vs ih =>
    intro us h
    simp only [wipeP]
    rw [ih us fun x hx => h x (by simp [hx])]
    exact one us ρ v (h v (by simp))
section
variable {K : PySem.W.Frag} {L W : List Addr} {ρ : Env} {σ : L2.St} {H H' : Hp} {p : Addr} {o : HO}
theorem Rl.lock (r : Rl K L W ρ σ H) (hp : H p = none) : Rl K (p :: L) W ρ σ (upd H p o) := by
  have e : hide (upd H p o) (W ++ p :: L) = hide H (W ++ L) := by
    funext a
    by_cases h : a = p
    · subst h
      rw [hide_in (by simp)]
      by_cases m : a ∈ W ++ L
      · rw [hide_in m]
      · rw [hide_out m, hp]
    · by_cases m : a ∈ W ++ L
      · rw [hide_in m, hide_in (by simp only [List.mem_append, List.mem_cons] at m ⊢; rcases m with m | m <;> simp [m])]
      · rw [hide_out m, hide_out (by simp only [List.mem_append, List.mem_cons] at m ⊢; rintro (z | z | z); exact m (.inl z); exact h z; exact m (.inr z)), upd_ne h]
  have np : ∀ a ∈ W ++ L, a ≠ p := fun a ha z => by subst z; exact r.alloc a ha hp
  refine ⟨?_, r.nd, fun a ha => ?_, fun a ha => ?_⟩
  · rw [e]; exact r.rel.mono (Ex.refl _) fun a ha => upd_ne (np a (by simp [ha]))
  · rcases List.mem_cons.mp ha with h | h
    · subst h; exact fun z => np a (by simp [z]) rfl
    · exact r.dj a h
  · rcases List.mem_cons.mp ha with h | h
    · subst h; rw [upd_same]; simp
    · rw [upd_ne (np a (by simp [h]))]; exact r.lk a h
theorem hide_upd (S : List Addr) (h : p ∈ S) : hide (upd H p o) S = hide H S := by
  funext a
  by_cases m : a ∈ S
  · rw [hide_in m, hide_in m]
  · rw [hide_out m, hide_out m, upd_ne fun z => m (by rw [z]; exact h)]
theorem Rl.relock (r : Rl K (p :: L) W ρ σ H) : Rl K (p :: L) W ρ σ (upd H p o) := by
  have np : p ∉ W := r.dj p (by simp)
  refine ⟨?_, r.nd, r.dj, fun a ha => ?_⟩
  · rw [hide_upd _ (by simp)]; exact r.rel.mono (Ex.refl _) fun a ha => upd_ne fun z => np (by rw [← z]; exact ha)
  · by_cases h : a = p
    · subst h; rw [upd_same]; simp
    · rw [upd_ne h]; exact r.lk a ha
theorem Stp.unlock {W' : List Addr} (a : Stp (p :: L) W H W' H') : Stp L (p :: W) H (p :: W') H' := by
  have h : ∀ (V : List Addr) (G : Hp), hide G (V ++ p :: L) = hide G (p :: V ++ L) := fun V G => hide_congr fun a => by
    simp only [List.mem_append, List.mem_cons, List.cons_append]
    constructor
    · rintro (h | h | h); exact .inr (.inl h); exact .inl h; exact .inr (.inr h)
    · rintro (h | h | h); exact .inr (.inl h); exact .inl h; exact .inr (.inr h)
  refine ⟨?_, fun x hx => ?_, fun x hx => a.lk x (by simp [hx])⟩
  · rw [← h, ← h]; exact a.ex
  · rcases List.mem_cons.mp hx with e | hx
    · subst e; exact .inl (by simp)
    · exact (a.new x hx).imp (fun z => by simp [z]) id
end
def PTss (X : Cx) (ifs : List Expr) (m : M Bool) : Prop := PTs X ifs (tB' X.K WX0 m)
section
variable {X : Cx} {Wx : WX}
theorem pts_yes : PTss X [] yesM := ⟨fun pins s σ H Q I h => pts_nil.run pins s σ H Q I (by
  obtain ⟨ρ, L, W, rl, p⟩ := h
  exact p W H .refl rl)⟩
theorem pts_if {c : Expr} {m : M Bool} (h : PB X WX0 c m) : PTss X [c] m := pts_one h
/-- a new list -/
theorem Post.newL {K : PySem.W.Frag} {L W : List Addr} {ρ : Env} {σ : L2.St} {H H1 : Hp} {Q : VK} {ds : List D} {xs : List V} {p : Addr} (h : Post K Wx σ L W H Q (.ok (.ownL (ds.map .val)) ρ)) (r : Rl K L W ρ σ H) (e : Ex H H1) (hp : H p = none) (hx : H1 p = some (.lst xs)) (q : Reps K (hide H1 (p :: W ++ L)) xs ds) : Q (.ref p) H1 := by
  have np : ∀ a ∈ W ++ L, a ≠ p := fun a ha z => by subst z; exact r.alloc a ha hp
  have r1 := r.ex e
  have ex : Ex (hide H (W ++ L)) (hide H1 (p :: W ++ L)) := hide_mono e fun a h => by
    simp only [List.cons_append, List.mem_cons] at h
    rcases h with h | h
    · subst h; exact .inr hp
    · exact .inl h
  have e0 : ∀ a ∈ W ++ L, H1 a = H a := fun a ha => by
    cases q : H a with
    | none => exact absurd q (r.alloc a ha)
    | some o => exact e a o q
  refine h (.ref p) (p :: W) H1 ⟨ex, fun a h => ?_, fun a ha => e0 a (by simp [ha])⟩ ⟨.cons (f := [p]) (.ownL hx (relSs_vals q)) (r.rel.mono ex fun a ha => e0 a (by simp [ha])), ?_, ?_, r1.lk⟩
  · rcases List.mem_cons.mp h with h | h
    · subst h; exact .inr hp
    · exact .inl h
  · exact List.nodup_cons.mpr ⟨fun z => np p (by simp [z]) rfl, r.nd⟩
  · intro a ha z
    rcases List.mem_cons.mp z with z | z
    · exact np a (by simp [ha]) z
    · exact r.dj a ha z
theorem But.wipe {js : List Nat} {σ σ' : L2.St} : ∀ {vs : List Nat}, (∀ j ∈ js, j ∈ vs) → But js σ σ' → L2.wipe σ' vs = L2.wipe σ vs := by
  intro vs hj hb
  apply List.ext_getElem?
  intro i
  by_cases m : i ∈ vs
  · have at_ : ∀ (σ : L2.St) (vs : List Nat), i ∈ vs → i < σ.length → (L2.wipe σ vs)[i]? = some none := by
      intro σ vs
      induction vs with
      | nil => intro h; simp at h
      | cons v vs ih =>
        intro h hl
        unfold L2.wipe
        by_cases e : v = i
        · subst e; exact List.getElem?_set_self (by rw [L2.wipe_length]; exact hl)
        · rw [List.getElem?_set_ne e]
          exact ih ((List.mem_cons.mp h).resolve_left fun z => e z.symm) hl
    by_cases hl : i < σ.length
    · rw [at_ σ vs m hl, at_ σ' vs m (by rw [hb.1]; exact hl)]
    · rw [List.getElem?_eq_none (by rw [L2.wipe_length, hb.1]; omega), List.getElem?_eq_none (by rw [L2.wipe_length]; omega)]
  · rw [wipe_get_ne m, wipe_get_ne m, hb.2 i fun z => m (hj i z)]
theorem wipe_wipe (σ : L2.St) (vs : List Nat) : L2.wipe (L2.wipe σ vs) vs = L2.wipe σ vs :=
  But.wipe (js := vs) (fun _ h => h) ⟨L2.wipe_length σ vs, fun _ h => wipe_get_ne h⟩
theorem lc_use {vs js : List Nat} {mi : M (List D)} {b : D → Env → Option Env} {t : M Bool} {m : M D} (hj : ∀ j ∈ js, j ∈ vs) {σ : L2.St} {H : Hp} {Q : VK} (h : tE X.K Wx (lcM vs mi b t m) σ H Q) : tLc (tI X.K Wx mi) (tG X.K b js) (tB' X.K WX0 t) (tE X.K WX0 (vl m)) vs σ H Q := by
  obtain ⟨ρ, L, W, rl, p⟩ := h
  refine ⟨ρ, L, W, rl, ?_⟩
  revert p
  show Post X.K Wx σ L W H Q (lcM vs mi b t m ρ) → _
  unfold lcM
  cases mi ρ with
  | stuck => exact id
  | er e ρ' => exact id
  | ok ds ρ1 =>
    intro p J W1 H1 st1 rl1 it Da hD
    have p : Post X.K Wx σ L W H Q (if ds.length ≤ 16777216 then (lcL vs b t m ds (wipeP ρ1 vs)).bd fun es ρ2 => .ok (.ownL (es.map .val)) (restP ρ1 ρ2 vs) else .stuck) := p
    by_cases hlen : ds.length ≤ 16777216
    · rw [if_pos hlen] at p
      obtain ⟨W2, st2, rl2⟩ := rl1.wipe vs
      cases hL : lcL vs b t m ds (wipeP ρ1 vs) with
      | stuck => rw [hL] at p; exact p.elim
      | er e ρ' => exact absurd hL (lcL_ner ds _ _ _)
      | ok es0 ρ0 =>
        rw [hL] at p
        have p : Post X.K Wx σ L W H Q (.ok (.ownL (es0.map .val)) (restP ρ1 ρ0 vs)) := p
        have cg : ∀ (V : List Addr) (G : Hp), hide G (V ++ Da :: L) = hide G (Da :: V ++ L) := fun V G => hide_congr fun a => by
          simp only [List.mem_append, List.mem_cons, List.cons_append]
          constructor
          · rintro (h | h | h); exact .inr (.inl h); exact .inl h; exact .inr (.inr h)
          · rintro (h | h | h); exact .inr (.inl h); exact .inl h; exact .inr (.inr h)
        have st0 : Stp L W1 H1 (Da :: W2) (upd H1 Da (.lst [])) := st2.trans ⟨hide_mono (Ex.new hD) fun a h => by
            simp only [List.cons_append, List.mem_cons] at h
            rcases h with h | h
            · subst h; exact .inr hD
            · exact .inl h, fun a h => by
            rcases List.mem_cons.mp h with h | h
            · subst h; exact .inr hD
            · exact .inl h, fun a h => upd_ne fun z => by subst z; exact rl1.lk a h hD⟩
        let Wd : Nat → Hp → Prop := fun i H' => ∃ ρi Wi xs es es', i ≤ ds.length ∧ Stp L (Da :: W2) (upd H1 Da (.lst [])) (Da :: Wi) H' ∧ Rl X.K (Da :: L) Wi (wipeP ρi vs) (L2.wipe σ vs) H' ∧ H' Da = some (.lst xs) ∧ Reps X.K (hide H' (Wi ++ Da :: L)) xs es ∧ es.length ≤ i ∧
          es ++ es' = es0 ∧ lcL vs b t m (ds.drop i) (wipeP ρi vs) = .ok es' ρ0
        refine ⟨fun i k H' => k = ds.length - i ∧ Wd i H', ⟨ds.length, rfl, ρ1, W2, [], [], es0, Nat.zero_le _, .refl, rl2.lock hD, upd_same, .nil, Nat.le_refl _, rfl, by rw [List.drop_zero]; exact hL⟩, fun i k H2 hw => ?_⟩
        obtain ⟨hk, ρi, Wi, xs, es, es', hi, sti, rli, hxs, hes, hel, hee, heq⟩ := hw
        obtain ⟨h1, h2⟩ := it (Da :: Wi) H2 (st0.trans sti) (fun a ha => rli.alloc a (by
          simp only [List.mem_append, List.mem_cons, List.cons_append] at ha ⊢
          rcases ha with h | h | h
          · exact .inr (.inl h)
          · exact .inl h
          · exact .inr (.inr h)))
        by_cases hl : i < ds.length
        · have hd : ds.drop i = ds[i] :: ds.drop (i + 1) := List.drop_eq_getElem_cons hl
          rw [hd] at heq
          obtain ⟨ρ2, hb, hcase⟩ := lcL_turn heq
          obtain ⟨go, yl⟩ := h2 i ds[i] (List.getElem?_eq_getElem hl)
          refine .inr ⟨go, Wd (i + 1), fun H' h => ⟨ds.length - (i + 1), by omega, rfl, h⟩, fun x H3 hy => ?_⟩
          obtain ⟨ex3, q3⟩ := yl x H3 hy
          have rl3 := rli.ex ex3
          refine ⟨wipeP ρi vs, Da :: L, Wi, ds[i], rl3, by rw [cg]; exact q3, ρ2, hb, fun σ4 W4 st4 rl4 but4 => ?_⟩
          have hw4 : L2.wipe σ4 vs = L2.wipe σ vs := (But.wipe hj but4).trans (wipe_wipe σ vs)
          refine ⟨hw4, ρ2, Da :: L, W4, rl4, ?_⟩
          have stA : Stp (Da :: L) Wi H2 W4 H3 := (rli.stp ex3).trans st4
          rcases hcase with ⟨ρ3, e, ρ4, es'', ht', hm', rfl, hnext⟩ | ⟨ρ3, ht', hnext⟩
          · rw [ht']
            refine fun W5 H5 st5 rl5 => iteT ⟨ρ3, Da :: L, W5, rl5, ?_⟩
            show Post X.K WX0 σ4 (Da :: L) W5 H5 _ ((m ρ3).map Slot.val)
            rw [hm']
            refine Post.val (r := .ok e ρ4) fun y W6 H6 st6 rl6 q6 => ?_
            obtain ⟨W7, st7, rl7⟩ := rl6.wipe vs
            rw [hw4] at rl7
            have stB : Stp (Da :: L) Wi H2 W7 H6 := ((stA.trans st5).trans st6).trans st7
            have hx6 : H6 Da = some (.lst xs) := (stB.lk Da (by simp)).trans hxs
            refine ⟨xs, hx6, ?_, ρ4, W7, xs ++ [y], es ++ [e], es'', hl, (sti.trans stB.unlock).trans ⟨by rw [← cg, ← cg, hide_upd _ (by simp)]; exact Ex.refl _, fun a h => .inl h, fun a h => upd_ne fun z => ?_⟩, rl7.relock, upd_same, ?_, by simp; omega, by rw [← hee]; simp, hnext⟩
            · rw [hes.length, sizeLine_eq]; omega
            · subst z; exact rl1.lk a h hD
            · rw [hide_upd _ (by simp)]
              exact (stB.reps hes).append (.cons (st7.rep q6) .nil)
          · rw [ht']
            refine fun W5 H5 st5 rl5 => iteF ?_
            obtain ⟨W7, st7, rl7⟩ := rl5.wipe vs
            rw [hw4] at rl7
            have stB : Stp (Da :: L) Wi H2 W7 H5 := (stA.trans st5).trans st7
            exact ⟨ρ3, W7, xs, es, es', hl, sti.trans stB.unlock, rl7, (stB.lk Da (by simp)).trans hxs, stB.reps hes, by omega, hee, hnext⟩
        · have hd : ds.drop i = [] := List.drop_eq_nil_of_le (by omega)
          rw [hd] at heq
          have heq : Res.ok ([] : List D) (wipeP ρi vs) = .ok es' ρ0 := heq
          obtain ⟨rfl, rfl⟩ : [] = es' ∧ wipeP ρi vs = ρ0 := by injection heq with a b; exact ⟨a, b⟩
          rw [List.append_nil] at hee
          subst hee
          have exI : Ex (hide H1 (W1 ++ L)) (hide H2 (Wi ++ Da :: L)) := by rw [cg]; exact (st0.trans sti).ex
          obtain ⟨W8, st8, rl8⟩ := Rl.rest rl1 vs exI rli
          have stF : Stp L W H (Da :: W8) H2 := (st1.trans (st0.trans sti)).trans st8.unlock
          refine .inl ⟨h1 i (by omega), p (.ref Da) (Da :: W8) H2 stF ⟨.cons (f := [Da]) (.ownL hxs (relSs_vals ?_)) ?_, ?_, ?_, fun a h => rl8.lk a (by simp [h])⟩⟩
          · rw [← cg]; exact st8.reps hes
          · rw [← cg]; exact rl8.rel
          · exact List.nodup_cons.mpr ⟨rl8.dj Da (by simp), rl8.nd⟩
          · intro a ha z
            rcases List.mem_cons.mp z with z | z
            · subst z; exact rl1.lk a ha hD
            · exact rl8.dj a (by simp [ha]) z
    · rw [if_neg hlen] at p
      exact p.elim
theorem px_lc {elt tg iter : Expr} {ifs : List Expr} {scope : Scope} {pos : Pos} {own : List (Str × Nat)} {mi : M (List D)} {b : D → Env → Option Env} {js : List Nat} {t : M Bool} {m : M D} (hc : X.calm = true) (hN : X.N.Nodup) (hi : PIt X Wx tg iter mi) (ok : BlkOk X.N X.env.scope scope own)
    (hg : ∀ (s : Shared) (H : Hp) (C : Addr) (cl : List (Str × Addr)) (fp : List Addr), PGt (X.blk s H scope (compEnvC scope cl C X.env) fp) tg b js)
    (ht : ∀ (s : Shared) (H : Hp) (C : Addr) (cl : List (Str × Addr)) (fp : List Addr), PTss (X.blk s H scope (compEnvC scope cl C X.env) fp) ifs t)
    (he : ∀ (s : Shared) (H : Hp) (C : Addr) (cl : List (Str × Addr)) (fp : List Addr), PD (X.blk s H scope (compEnvC scope cl C X.env) fp) WX0 elt m)
    (hj : js.all (fun j => decide (j ∈ own.map (·.2))) = true := by decide) (hs : ∀ x, foldedSetIterable iter X.env x = pure x := by intro _; rfl) :
    PX X Wx (.ListComp elt [⟨tg, iter, ifs, 0⟩] scope pos) (lcM (own.map (·.2)) mi b t m) := by
  refine PE_imp (pe_lc (own := own) (g := tG X.K b js) (tt := tB' X.K WX0 t) (te := tE X.K WX0 (vl m)) hc hN hi ok (fun s H C cl fp => hg s H C cl fp) (fun s H C cl fp => ht s H C cl fp) (fun s H C cl fp => he s H C cl fp) hs) fun σ H Q h => ?_
  exact lc_use (fun j hm => of_decide_eq_true (List.all_eq_true.mp hj j hm)) h
end
end P
/-! The P-layer, 7: operators and built-ins by values. -/
namespace P
open PySem PySem.Spec PyProof.Rows L2

section
variable {K : PySem.W.Frag} {G : Hp} {v : V}
theorem Rep.int_inv {i : Int} (h : Rep K G v (.int i)) : v = .int i := by cases h; rfl
theorem Rep.str_inv {x : Str} (h : Rep K G v (.str x)) : v = .str x := by cases h; rfl
theorem Rep.non_inv (h : Rep K G v .non) : v = .non := by cases h; rfl
theorem Rep.tup_inv {ds : List D} (h : Rep K G v (.tup ds)) : ∃ a xs, v = .ref a ∧ SqT K G a xs ∧ Reps K G xs ds := by cases h with | tup h r => exact ⟨_, _, rfl, h, r⟩
theorem Rep.lst_inv {ds : List D} (h : Rep K G v (.lst ds)) : ∃ a xs, v = .ref a ∧ G a = some (.lst xs) ∧ Reps K G xs ds := by cases h with | lst h r => exact ⟨_, _, rfl, h, r⟩
end
/-- a new tuple that is frozen at once -/
theorem newT {K : PySem.W.Frag} {S : List Addr} {H : Hp} {xs : List V} {ds : List D} {p : Addr} (al : ∀ a ∈ S, H a ≠ none) (hp : H p = none) (q : Reps K (hide H S) xs ds) : Ex H (upd H p (.tup xs)) ∧ Rep K (hide (upd H p (.tup xs)) S) (.ref p) (.tup ds) := by
  have e := Ex.new (o := HO.tup xs) hp
  refine ⟨e, .tup (.inl (.inl ?_)) (q.mono (hide_mono e fun a h => .inl h))⟩
  rw [hide_out fun z => al p z hp, upd_same]
theorem newLst {K : PySem.W.Frag} {S : List Addr} {H : Hp} {xs : List V} {ds : List D} {p : Addr} (al : ∀ a ∈ S, H a ≠ none) (hp : H p = none) (q : Reps K (hide H S) xs ds) : Ex H (upd H p (.lst xs)) ∧ Rep K (hide (upd H p (.lst xs)) S) (.ref p) (.lst ds) := by
  have e := Ex.new (o := HO.lst xs) hp
  refine ⟨e, .lst ?_ (q.mono (hide_mono e fun a h => .inl h))⟩
  rw [hide_out fun z => al p z hp, upd_same]

/-! ### + - * // % ** -/
def addI : D → D → Option D
  | .int i, .int j => some (.int (i + j))
  | _, _ => none
def addS : D → D → Option D
  | .str i, .str j => if i.length + j.length ≤ 1000000 then some (.str (i ++ j)) else none
  | _, _ => none
def addT : D → D → Option D
  | .tup xs, .tup ys => if xs.length + ys.length ≤ 1000000 then some (.tup (xs ++ ys)) else none
  | _, _ => none
def addL : D → D → Option D
  | .lst xs, .lst ys => if xs.length + ys.length ≤ 1000000 then some (.lst (xs ++ ys)) else none
  | _, _ => none
def addD : D → D → Option D
  | .int i, .int j => some (.int (i + j))
  | .str i, .str j => if i.length + j.length ≤ 1000000 then some (.str (i ++ j)) else none
  | .tup xs, .tup ys => if xs.length + ys.length ≤ 1000000 then some (.tup (xs ++ ys)) else none
  | .lst xs, .lst ys => if xs.length + ys.length ≤ 1000000 then some (.lst (xs ++ ys)) else none
  | _, _ => none
section
variable {X : Cx}
theorem big_line {n : Nat} (h : n ≤ 1000000) : n ≤ sizeLine := Nat.le_trans h (by rw [sizeLine_eq]; decide)
theorem opd_I0 {f : Value → Value → Sem Value} {g : Int → Int → Int} (h : OpR X f (rI0 fun i j => .int (g i j))) : OpD X f fun x y => match x, y with
    | .int i, .int j => some (.int (g i j))
    | _, _ => none := ⟨_, h, fun S H x y dx dy d Q al rx ry e k => by
  dsimp only at e
  split at e
  · rw [rx.int_inv, ry.int_inv]
    cases e
    exact ⟨_, _, rfl, rfl, k _ H (Ex.refl H) (.int _)⟩
  · cases e⟩
theorem opd_I {f : Value → Value → Sem Value} {C : Int → Int → Prop} {c : Int → Int → Bool} {g : Int → Int → Int} (h : OpR X f (rI C fun i j => .int (g i j))) (hc : ∀ i j, c i j = true → C i j) : OpD X f fun x y => match x, y with
    | .int i, .int j => if c i j then some (.int (g i j)) else none
    | _, _ => none := ⟨_, h, fun S H x y dx dy d Q al rx ry e k => by
  dsimp only at e
  split at e
  · rw [rx.int_inv, ry.int_inv]
    split at e
    · rename_i hh
      cases e
      exact ⟨_, _, rfl, rfl, hc _ _ hh, k _ H (Ex.refl H) (.int _)⟩
    · cases e
  · cases e⟩
theorem opd_add : OpD X (binaryOp .Add) addD := by
  have hI : OpD X (binaryOp .Add) addI := (opd_I0 op_add).of fun x y => by cases x <;> cases y <;> rfl
  have hS : OpD X (binaryOp .Add) addS := ⟨_, op_add_str, fun S H x y dx dy d Q al rx ry e k => by
    unfold addS at e
    split at e
    · split at e
      · rename_i hh
        cases e
        rw [rx.str_inv, ry.str_inv]
        exact ⟨_, _, rfl, rfl, big_line hh, k _ H (Ex.refl H) (.str _)⟩
      · cases e
    · cases e⟩
  have hT : OpD X (binaryOp .Add) addT := ⟨_, op_catA, fun S H x y dx dy d Q al rx ry e k => by
    unfold addT at e
    split at e
    · split at e
      · rename_i hh
        cases e
        obtain ⟨a, xs, e1, h1, r1⟩ := rx.tup_inv
        obtain ⟨b, ys, e2, h2, r2⟩ := ry.tup_inv
        refine ⟨a, b, xs, ys, e1, e2, ex_t hide_ex h1, ex_t hide_ex h2, big_line (by rw [r1.length, r2.length]; exact hh), fun z => ?_, fun _ z => ?_, fun _ _ p hp => ?_⟩
        · subst z
          cases r1
          exact k _ H (Ex.refl H) (.tup h2 r2)
        · subst z
          cases r2
          rw [List.append_nil] at k
          exact k _ H (Ex.refl H) (.tup h1 r1)
        · have z := newT al hp (r1.append r2)
          exact k _ _ z.1 z.2
      · cases e
    · cases e⟩
  have hL : OpD X (binaryOp .Add) addL := ⟨_, op_cat, fun S H x y dx dy d Q al rx ry e k => by
    unfold addL at e
    split at e
    · split at e
      · rename_i hh
        cases e
        obtain ⟨a, xs, e1, h1, r1⟩ := rx.lst_inv
        obtain ⟨b, ys, e2, h2, r2⟩ := ry.lst_inv
        refine ⟨a, b, xs, ys, e1, e2, (hide_some h1).2, (hide_some h2).2, big_line (by rw [r1.length, r2.length]; exact hh), fun p hp => ?_⟩
        have z := newLst al hp (r1.append r2)
        exact k _ _ z.1 z.2
      · cases e
    · cases e⟩
  refine (((hI.or hS).or hT).or hL).of fun x y => ?_
  cases x <;> cases y <;> try rfl
  all_goals (simp only [addD, addI, addS, addT, addL]; split <;> rfl)
@[simp] def subD : D → D → Option D
  | .int i, .int j => some (.int (i - j))
  | _, _ => none
theorem opd_sub : OpD X (binaryOp .Sub) subD := (opd_I0 op_sub).of fun x y => by cases x <;> cases y <;> rfl
/-- a product of ints: one below 2 ^ 64, or both of less than 400,000 bits -/
def mulOk (i j : Int) : Bool := decide (i.natAbs < 2 ^ 63) || decide (j.natAbs < 2 ^ 63) || decide (i.natAbs.log2 + j.natAbs.log2 < 1000000)
def mulI : D → D → Option D
  | .int i, .int j => if mulOk i j then some (.int (i * j)) else none
  | _, _ => none
def mulL : D → D → Option D
  | .lst xs, .int j => if j < 1000000 ∧ -1000000 < j ∧ xs.length * j.toNat ≤ 1000000 then some (.lst (List.replicate j.toNat xs).flatten) else none
  | _, _ => none
def mulT : D → D → Option D
  | .tup xs, .int j => if xs ≠ [] ∧ 2 ≤ j ∧ j ≤ 1000 ∧ xs.length ≤ 1000 then some (.tup (List.replicate j.toNat xs).flatten) else none
  | _, _ => none
def mulD (x y : D) : Option D := ((mulI x y).or (mulL x y)).or (mulT x y)
theorem Reps.flat {K : PySem.W.Frag} {G : Hp} {xs : List V} {ds : List D} (h : Reps K G xs ds) : ∀ n, Reps K G (List.replicate n xs).flatten (List.replicate n ds).flatten
  | 0 => .nil
  | n + 1 => by rw [List.replicate_succ, List.replicate_succ, List.flatten_cons, List.flatten_cons]; exact h.append (Reps.flat h n)
theorem opd_mul : OpD X (binaryOp .Mult) mulD := by
  have hI : OpD X (binaryOp .Mult) mulI := by
    refine (opd_I (c := mulOk) (op_mul.or op_mulW |> fun h => (show OpR X (binaryOp .Mult) (rI (fun i j => CMul i j ∨ CMulW i j) fun i j => .int (i * j)) from fun pins s σ H x y v u Q I rx ry q => h pins s σ H x y v u Q I rx ry (by
      obtain ⟨i, j, e1, e2, c, q⟩ := q
      exact c.elim (fun c => .inl ⟨i, j, e1, e2, c, q⟩) fun c => .inr ⟨i, j, e1, e2, c, q⟩))) (fun i j h => ?_)).of fun x y => by cases x <;> cases y <;> rfl
    simp only [mulOk, Bool.or_eq_true, decide_eq_true_eq] at h
    rcases h with (h | h) | h
    · exact .inl (.inl ⟨by omega, by omega⟩)
    · exact .inl (.inr ⟨by omega, by omega⟩)
    · exact .inr h
  have hL : OpD X (binaryOp .Mult) mulL := ⟨_, op_rep, fun S H x y dx dy d Q al rx ry e k => by
    unfold mulL at e
    split at e
    · split at e
      · rename_i hh
        cases e
        obtain ⟨a, xs, e1, h1, r1⟩ := rx.lst_inv
        rw [ry.int_inv]
        refine ⟨a, _, xs, e1, rfl, (hide_some h1).2, by omega, by omega, big_line (by rw [r1.length]; exact hh.2.2), fun p hp => ?_⟩
        exact k _ _ (newLst al hp (r1.flat _)).1 (newLst al hp (r1.flat _)).2
      · cases e
    · cases e⟩
  have hT : OpD X (binaryOp .Mult) mulT := ⟨_, op_repT, fun S H x y dx dy d Q al rx ry e k => by
    unfold mulT at e
    split at e
    · split at e
      · rename_i hh
        cases e
        obtain ⟨a, xs, e1, h1, r1⟩ := rx.tup_inv
        rw [ry.int_inv]
        refine ⟨a, _, xs, e1, rfl, ex_t hide_ex h1, fun z => ?_, hh.2.1, hh.2.2.1, by rw [r1.length]; exact hh.2.2.2, fun p hp => ?_⟩
        · subst z; cases r1; exact hh.1 rfl
        · exact k _ _ (newT al hp (r1.flat _)).1 (newT al hp (r1.flat _)).2
      · cases e
    · cases e⟩
  exact ((hI.or hL).or hT).of fun x y => rfl
def fdivD : D → D → Option D
  | .int i, .int j => if 0 < j ∧ j.natAbs < 2 ^ 8000 then some (.int (i / j)) else none
  | _, _ => none
theorem opd_fdiv : OpD X (binaryOp .FloorDiv) fdivD := by
  refine (opd_I (c := fun _ j => decide (0 < j ∧ j.natAbs < 2 ^ 8000)) op_fdivW fun i j h => ?_).of fun x y => ?_
  · have h := of_decide_eq_true h
    exact wide_div h.1 h.2 (by decide) (by decide)
  · cases x <;> cases y <;> try rfl
    simp only [fdivD, decide_eq_true_eq]
def modD : D → D → Option D
  | .int i, .int j => if 0 < j then some (.int (i % j)) else none
  | _, _ => none
theorem opd_mod : OpD X (binaryOp .Mod) modD := by
  refine (opd_I (c := fun _ j => decide (0 < j)) op_mod fun i j h => of_decide_eq_true h).of fun x y => ?_
  cases x <;> cases y <;> try rfl
  simp only [modD, decide_eq_true_eq]
/-- i ** n -/
def powD : D → D → Option D
  | .int i, .int n => if 0 ≤ n ∧ (i.natAbs.log2 + 1) * n.toNat ≤ 1000000 then some (.int (i ^ n.toNat)) else none
  | _, _ => none
theorem op_powW : OpR X (binaryOp .Pow) (rI (fun i n => 0 ≤ n ∧ (i.natAbs.log2 + 1) * n.toNat ≤ 1000000) fun i j => .int (i ^ j.toNat)) := opI fun i n _ _ _ _ _ hc q => by
  refine pow_int hc.1 ?_ q
  have b : Builtin.Int.intBits i ≤ i.natAbs.log2 + 1 := by
    unfold Builtin.Int.intBits
    split <;> omega
  have h1 : Builtin.Int.intBits i * n.toNat ≤ (i.natAbs.log2 + 1) * n.toNat := Nat.mul_le_mul_right _ b
  have h2 : ((Builtin.Int.intBits i : Nat) : Int) * n = ((Builtin.Int.intBits i * n.toNat : Nat) : Int) := by
    rw [Int.natCast_mul, Int.toNat_of_nonneg hc.1]
  rw [h2]
  have h3 := hc.2
  omega
theorem opd_pow : OpD X (binaryOp .Pow) powD := by
  refine (opd_I (c := fun i n => decide (0 ≤ n ∧ (i.natAbs.log2 + 1) * n.toNat ≤ 1000000)) op_powW fun i j h => of_decide_eq_true h).of fun x y => ?_
  cases x <;> cases y <;> try rfl
  simp only [powD, decide_eq_true_eq]
@[simp] def negD : D → Option D
  | .int i => some (.int (-i))
  | _ => none
theorem und_neg : UnD X (unaryOp .USub) negD := ⟨_, un_neg, fun S H x dx d Q al rx e k => by
  unfold negD at e
  split at e
  · cases e; rw [rx.int_inv]; exact ⟨_, rfl, k _ H (Ex.refl H) (.int _)⟩
  · cases e⟩

/-! ### comparisons -/
mutual
def toP : D → Option PyData
  | .non => some .none
  | .bl b => some (.bool b)
  | .int i => some (.int i)
  | .str x => some (.str x)
  | .tup ds => (toPs ds).map .tuple
  | .lst ds => (toPs ds).map .list
  | _ => none
def toPs : List D → Option (List PyData)
  | [] => some []
  | d :: ds => match toP d, toPs ds with
    | some p, some ps => some (p :: ps)
    | _, _ => none
end
mutual
theorem Rep.dp {K : PySem.W.Frag} {G : Hp} : ∀ {v : V} {d : D} {p : PyData}, Rep K G v d → toP d = some p → Dp K G v p
  | _, _, _, .non, h => by simp only [toP, Option.some.injEq] at h; subst h; exact .non
  | _, _, _, .bl b, h => by simp only [toP, Option.some.injEq] at h; subst h; exact .bl b
  | _, _, _, .int b, h => by simp only [toP, Option.some.injEq] at h; subst h; exact .int b
  | _, _, _, .str b, h => by simp only [toP, Option.some.injEq] at h; subst h; exact .str b
  | _, _, _, .tup hq r, h => by
    simp only [toP, Option.map_eq_some_iff] at h
    obtain ⟨ps, h, rfl⟩ := h
    exact .tup hq (Reps.dp r h)
  | _, _, _, .lst hq r, h => by
    simp only [toP, Option.map_eq_some_iff] at h
    obtain ⟨ps, h, rfl⟩ := h
    exact .lst (.inl (.inl hq)) (Reps.dp r h)
  | _, _, _, .scr _, h => by simp only [toP] at h; cases h
  | _, _, _, .dK _ _, h => by simp only [toP] at h; cases h
  | _, _, _, .dT _ _, h => by simp only [toP] at h; cases h
  | _, _, _, .ins _ _, h => by simp only [toP] at h; cases h
theorem Reps.dp {K : PySem.W.Frag} {G : Hp} : ∀ {vs : List V} {ds : List D} {ps : List PyData}, Reps K G vs ds → toPs ds = some ps → DpAll K G vs ps
  | _, _, _, .nil, h => by simp only [toPs, Option.some.injEq] at h; subst h; exact .nil
  | _, _, _, .cons q r, h => by
    simp only [toPs] at h
    split at h
    · rename_i p ps h1 h2
      cases h
      exact .cons (Rep.dp q h1) (Reps.dp r h2)
    · cases h
end
mutual
theorem dp_ex {K : PySem.W.Frag} {G G' : Hp} (e : Ex G G') : ∀ {v : V} {p : PyData}, Dp K G v p → Dp K G' v p
  | _, _, .non => .non
  | _, _, .bl b => .bl b
  | _, _, .int b => .int b
  | _, _, .str b => .str b
  | _, _, .lst h r => .lst (ex_l e h) (dps_ex e r)
  | _, _, .tup h r => .tup (ex_t e h) (dps_ex e r)
theorem dps_ex {K : PySem.W.Frag} {G G' : Hp} (e : Ex G G') : ∀ {v : List V} {p : List PyData}, DpAll K G v p → DpAll K G' v p
  | _, _, .nil => .nil
  | _, _, .cons h r => .cons (dp_ex e h) (dps_ex e r)
end
def eqS : D → D → Option D
  | .int i, .int j => some (.bl (decide (i = j)))
  | .str i, .str j => some (.bl (decide (i = j)))
  | .bl i, .bl j => some (.bl (decide (i = j)))
  | _, _ => none
def neS : D → D → Option D
  | .int i, .int j => some (.bl (!decide (i = j)))
  | .str i, .str j => some (.bl (!decide (i = j)))
  | .bl i, .bl j => some (.bl (!decide (i = j)))
  | _, _ => none
def eqP (x y : D) : Option D := match toP x, toP y with
  | some p, some q => if SeqAt.shaped p && SeqAt.shaped q then some (.bl (PyData.eqv p q)) else none
  | _, _ => none
def neP (x y : D) : Option D := match toP x, toP y with
  | some p, some q => if SeqAt.shaped p && SeqAt.shaped q then some (.bl (!PyData.eqv p q)) else none
  | _, _ => none
def eqD (x y : D) : Option D := (eqS x y).or (eqP x y)
def neD (x y : D) : Option D := (neS x y).or (neP x y)
theorem dV_int {i j : Int} : decide (V.int i = V.int j) = decide (i = j) := decide_eq_decide.mpr ⟨V.int.inj, fun h => by rw [h]⟩
theorem dV_str {i j : Str} : decide (V.str i = V.str j) = decide (i = j) := decide_eq_decide.mpr ⟨V.str.inj, fun h => by rw [h]⟩
theorem dV_bl {i j : Bool} : decide (V.bl i = V.bl j) = decide (i = j) := decide_eq_decide.mpr ⟨V.bl.inj, fun h => by rw [h]⟩
theorem opd_eq (hu : X.A.units + 64 < cLine) : OpD X (compareOp .Eq) eqD := OpD.or ⟨_, op_eq, fun S H x y dx dy d Q al rx ry e k => by
  unfold eqS at e
  split at e
  · cases e; rw [rx.int_inv, ry.int_inv]; exact ⟨rfl, k _ H (Ex.refl H) (by rw [dV_int]; exact .bl _)⟩
  · cases e; rw [rx.str_inv, ry.str_inv]; exact ⟨rfl, k _ H (Ex.refl H) (by rw [dV_str]; exact .bl _)⟩
  · cases e; rw [rx.bl_inv, ry.bl_inv]; exact ⟨rfl, k _ H (Ex.refl H) (by rw [dV_bl]; exact .bl _)⟩
  · cases e⟩ ⟨_, op_eqD hu, fun S H x y dx dy d Q al rx ry e k => by
  unfold eqP at e
  split at e
  · rename_i p q h1 h2
    split at e
    · rename_i hh
      cases e
      obtain ⟨s1, s2⟩ := Bool.and_eq_true_iff.mp hh
      exact ⟨p, q, dp_ex hide_ex (rx.dp h1), dp_ex hide_ex (ry.dp h2), s1, s2, k _ H (Ex.refl H) (.bl _)⟩
    · cases e
  · cases e⟩
theorem opd_ne (hu : X.A.units + 64 < cLine) : OpD X (compareOp .NotEq) neD := OpD.or ⟨_, op_ne, fun S H x y dx dy d Q al rx ry e k => by
  unfold neS at e
  split at e
  · cases e; rw [rx.int_inv, ry.int_inv]; exact ⟨rfl, k _ H (Ex.refl H) (by rw [dV_int]; exact .bl _)⟩
  · cases e; rw [rx.str_inv, ry.str_inv]; exact ⟨rfl, k _ H (Ex.refl H) (by rw [dV_str]; exact .bl _)⟩
  · cases e; rw [rx.bl_inv, ry.bl_inv]; exact ⟨rfl, k _ H (Ex.refl H) (by rw [dV_bl]; exact .bl _)⟩
  · cases e⟩ ⟨_, op_neD hu, fun S H x y dx dy d Q al rx ry e k => by
  unfold neP at e
  split at e
  · rename_i p q h1 h2
    split at e
    · rename_i hh
      cases e
      obtain ⟨s1, s2⟩ := Bool.and_eq_true_iff.mp hh
      exact ⟨p, q, dp_ex hide_ex (rx.dp h1), dp_ex hide_ex (ry.dp h2), s1, s2, k _ H (Ex.refl H) (.bl _)⟩
    · cases e
  · cases e⟩
theorem opd_B0 {f : Value → Value → Sem Value} {g : Int → Int → Bool} (h : OpR X f (rI0 fun i j => .bl (g i j))) : OpD X f fun x y => match x, y with
    | .int i, .int j => some (.bl (g i j))
    | _, _ => none := ⟨_, h, fun S H x y dx dy d Q al rx ry e k => by
  dsimp only at e
  split at e
  · rw [rx.int_inv, ry.int_inv]
    cases e
    exact ⟨_, _, rfl, rfl, k _ H (Ex.refl H) (.bl _)⟩
  · cases e⟩
@[simp] def ltD : D → D → Option D
  | .int i, .int j => some (.bl (decide (i < j)))
  | _, _ => none
@[simp] def leD : D → D → Option D
  | .int i, .int j => some (.bl (decide (i ≤ j)))
  | _, _ => none
@[simp] def gtD : D → D → Option D
  | .int i, .int j => some (.bl (decide (j < i)))
  | _, _ => none
@[simp] def geD : D → D → Option D
  | .int i, .int j => some (.bl (decide (j ≤ i)))
  | _, _ => none
theorem opd_lt : OpD X (compareOp .Lt) ltD := (opd_B0 op_lt).of fun x y => by cases x <;> cases y <;> rfl
theorem opd_le : OpD X (compareOp .LtE) leD := (opd_B0 op_le).of fun x y => by cases x <;> cases y <;> rfl
theorem opd_gt : OpD X (compareOp .Gt) gtD := (opd_B0 op_gt).of fun x y => by cases x <;> cases y <;> rfl
theorem opd_ge : OpD X (compareOp .GtE) geD := (opd_B0 op_ge).of fun x y => by cases x <;> cases y <;> rfl
@[simp] def isNon : D → Bool
  | .non => true
  | _ => false
theorem Rep.non_iff {K : PySem.W.Frag} {G : Hp} {v : V} {d : D} (h : Rep K G v d) : decide (v = .non) = isNon d := by cases h <;> rfl
/-- is None, is True: the right one says which -/
@[simp] def isD : D → D → Option D
  | x, .non => some (.bl (isNon x))
  | .bl a, .bl b => some (.bl (decide (a = b)))
  | _, _ => none
@[simp] def isNotD : D → D → Option D
  | x, .non => some (.bl (!isNon x))
  | .bl a, .bl b => some (.bl (!decide (a = b)))
  | _, _ => none
theorem opd_is : OpD X (compareOp .Is) isD := ⟨_, op_isN.or op_isBl, fun S H x y dx dy d Q al rx ry e k => by
  unfold isD at e
  split at e
  · cases e
    refine .inl ⟨ry.non_inv, k _ H (Ex.refl H) ?_⟩
    rw [rx.non_iff]; exact .bl _
  · cases e
    exact .inr ⟨_, _, rx.bl_inv, ry.bl_inv, k _ H (Ex.refl H) (.bl _)⟩
  · cases e⟩
theorem opd_isnot : OpD X (compareOp .IsNot) isNotD := ⟨_, op_notN.or op_notBl, fun S H x y dx dy d Q al rx ry e k => by
  unfold isNotD at e
  split at e
  · cases e
    refine .inl ⟨ry.non_inv, k _ H (Ex.refl H) ?_⟩
    rw [rx.non_iff]; exact .bl _
  · cases e
    exact .inr ⟨_, _, rx.bl_inv, ry.bl_inv, k _ H (Ex.refl H) (.bl _)⟩
  · cases e⟩
end
end P
/-! The P-layer, 8: calls of built-ins, subscripts, displays, what is walked. -/
namespace P
open PySem PySem.Spec PyProof.Rows L2

/-! ### calls of built-ins -/
def CallD (X : Cx) (f : Value) (g : List D → Option D) : Prop := ∃ r : List V → Hp → VK → Prop, CallR X f r ∧ ∀ (S : List Addr) (H : Hp) (xs : List V) (ds : List D) (d : D) (Q : VK), (∀ a ∈ S, H a ≠ none) → Reps X.K (hide H S) xs ds → g ds = some d →
  (∀ v H', Ex H H' → Rep X.K (hide H' S) v d → Q v H') → r xs H Q
/-- .. that makes a new list -/
def CallL (X : Cx) (f : Value) (g : List D → Option (List D)) : Prop := ∃ r : List V → Hp → VK → Prop, CallR X f r ∧ ∀ (S : List Addr) (H : Hp) (xs : List V) (ds es : List D) (Q : VK), (∀ a ∈ S, H a ≠ none) → Reps X.K (hide H S) xs ds → g ds = some es →
  (∀ ys p, H p = none → Reps X.K (hide H S) ys es → Q (.ref p) (upd H p (.lst ys))) → r xs H Q
@[simp] def callB (g : List D → Option D) (ma : M (List D)) : M D := fun ρ => (ma ρ).bd fun ds ρ1 => ofO (g ds) ρ1
@[simp] def callN (g : List D → Option (List D)) (ma : M (List D)) : M Slot := fun ρ => (ma ρ).bd fun ds ρ1 => ofO ((g ds).map fun es => .ownL (es.map .val)) ρ1
section
variable {X : Cx} {Wx : WX} {x : Str} {p pos : Pos} {e : Expr} {es : List Expr} {ma : M (List D)}
theorem tCB_use {K : PySem.W.Frag} {σ : L2.St} {H : Hp} {Q : VK} {r : List V → Hp → VK → Prop} {g : List D → Option D} (h2 : ∀ (S : List Addr) (H : Hp) (xs : List V) (ds : List D) (d : D) (Q : VK), (∀ a ∈ S, H a ≠ none) → Reps K (hide H S) xs ds → g ds = some d →
    (∀ v H', Ex H H' → Rep K (hide H' S) v d → Q v H') → r xs H Q) (h : tE K Wx (vl (callB g ma)) σ H Q) : tCB r (tA K Wx ma) σ H Q := by
  obtain ⟨ρ, L, W, rl, p⟩ := h
  simp only [vl, callB, map_bd] at p
  refine bd_A (T := Post K Wx σ L W H Q) rl p fun vs ds ρ1 W1 H1 st1 rl1 q1 p => ?_
  obtain ⟨d, e, p⟩ := Post.ofO p
  exact h2 (W1 ++ L) H1 vs ds d Q rl1.alloc q1 e fun v H' ex q => (p.step st1).here rl1 ex q
theorem tCB_useL {K : PySem.W.Frag} {σ : L2.St} {H : Hp} {Q : VK} {r : List V → Hp → VK → Prop} {g : List D → Option (List D)} (h2 : ∀ (S : List Addr) (H : Hp) (xs : List V) (ds es : List D) (Q : VK), (∀ a ∈ S, H a ≠ none) → Reps K (hide H S) xs ds → g ds = some es →
    (∀ ys p, H p = none → Reps K (hide H S) ys es → Q (.ref p) (upd H p (.lst ys))) → r xs H Q) (h : tE K Wx (callN g ma) σ H Q) : tCB r (tA K Wx ma) σ H Q := by
  obtain ⟨ρ, L, W, rl, p⟩ := h
  refine bd_A (T := Post K Wx σ L W H Q) rl p fun vs ds ρ1 W1 H1 st1 rl1 q1 p => ?_
  cases e : g ds with
  | none => rw [e] at p; exact p.elim
  | some es =>
    rw [e] at p
    have p : Post K Wx σ L W H Q (.ok (.ownL (es.map .val)) ρ1) := p
    refine h2 (W1 ++ L) H1 vs ds es Q rl1.alloc q1 e fun ys pp hp q => ?_
    exact (p.step st1).newL rl1 (Ex.new hp) hp upd_same (q.mono (hide_mono (Ex.new hp) fun a h => by
      simp only [List.cons_append, List.mem_cons] at h
      rcases h with h | h
      · subst h; exact .inr hp
      · exact .inl h))
theorem px_callB {id : String} {g : List D → Option D} (hc : CallD X (.builtin id) g) (hm : X.mg x = none) (ha : PAs X Wx (e :: es) ma) (hv : bootBuiltins x = some (.builtin id) := by decide +kernel) (hg : Gl X x := by rfl) (hn : x ≠ "__name__" := by decide) (hdb : (x == ("__debug__" : Str)) = false := by decide)
    (he : starEach (e :: es) X.env = (false, eval e X.env) :: starEach es X.env := by rfl) (hpl : (backTo pos (starEach es X.env)).any (·.1) = false := by rfl) : PD X Wx (.Call (.Name x p) (e :: es) [] pos) (callB g ma) := by
  obtain ⟨r, h1, h2⟩ := hc
  exact PE_imp (pe_callB h1 hg hm hv ha hn hdb he hpl) fun σ H Q h => tCB_use h2 h
theorem px_callTy {id : String} {g : List D → Option D} (hc : CallD X (.type id) g) (hm : X.mg x = none) (ha : PAs X Wx (e :: es) ma) (hv : bootBuiltins x = some (.type id) := by decide +kernel) (hg : Gl X x := by rfl) (hn : x ≠ "__name__" := by decide) (hdb : (x == ("__debug__" : Str)) = false := by decide)
    (he : starEach (e :: es) X.env = (false, eval e X.env) :: starEach es X.env := by rfl) (hpl : (backTo pos (starEach es X.env)).any (·.1) = false := by rfl) : PD X Wx (.Call (.Name x p) (e :: es) [] pos) (callB g ma) := by
  obtain ⟨r, h1, h2⟩ := hc
  exact PE_imp (pe_callTy h1 hg hm hv ha hn hdb he hpl) fun σ H Q h => tCB_use h2 h
theorem px_callTyN {id : String} {g : List D → Option (List D)} (hc : CallL X (.type id) g) (hm : X.mg x = none) (ha : PAs X Wx (e :: es) ma) (hv : bootBuiltins x = some (.type id) := by decide +kernel) (hg : Gl X x := by rfl) (hn : x ≠ "__name__" := by decide) (hdb : (x == ("__debug__" : Str)) = false := by decide)
    (he : starEach (e :: es) X.env = (false, eval e X.env) :: starEach es X.env := by rfl) (hpl : (backTo pos (starEach es X.env)).any (·.1) = false := by rfl) : PX X Wx (.Call (.Name x p) (e :: es) [] pos) (callN g ma) := by
  obtain ⟨r, h1, h2⟩ := hc
  exact PE_imp (pe_callTy h1 hg hm hv ha hn hdb he hpl) fun σ H Q h => tCB_useL h2 h
theorem px_callBN {id : String} {g : List D → Option (List D)} (hc : CallL X (.builtin id) g) (hm : X.mg x = none) (ha : PAs X Wx (e :: es) ma) (hv : bootBuiltins x = some (.builtin id) := by decide +kernel) (hg : Gl X x := by rfl) (hn : x ≠ "__name__" := by decide) (hdb : (x == ("__debug__" : Str)) = false := by decide)
    (he : starEach (e :: es) X.env = (false, eval e X.env) :: starEach es X.env := by rfl) (hpl : (backTo pos (starEach es X.env)).any (·.1) = false := by rfl) : PX X Wx (.Call (.Name x p) (e :: es) [] pos) (callN g ma) := by
  obtain ⟨r, h1, h2⟩ := hc
  exact PE_imp (pe_callB h1 hg hm hv ha hn hdb he hpl) fun σ H Q h => tCB_useL h2 h
end
def lenD : List D → Option D
  | [.tup ds] => some (.int ds.length)
  | [.lst ds] => some (.int ds.length)
  | [.scr ns] => some (.int ns.length)
  | [.str x] => if x.length ≤ 1000000 then some (.int x.length) else none
  | _ => none
def absD : List D → Option D
  | [.int i] => some (.int (if i < 0 then -i else i))
  | _ => none
def max2D : List D → Option D
  | [.int i, .int j] => some (.int (if j > i then j else i))
  | _ => none
def min2D : List D → Option D
  | [.int i, .int j] => some (.int (if j < i then j else i))
  | _ => none
def intD : List D → Option D
  | [.int i] => some (.int i)
  | [.bl b] => some (.int (if b then 1 else 0))
  | _ => none
def strID : List D → Option D
  | [.int i] => if i.natAbs.log2 < 1920 then some (.str (toString i)) else none
  | _ => none
def asInts : List D → Option (List Int)
  | [] => some []
  | .int i :: r => (asInts r).map (i :: ·)
  | _ :: _ => none
def asBls : List D → Option (List Bool)
  | [] => some []
  | .bl i :: r => (asBls r).map (i :: ·)
  | _ :: _ => none
def sumD : List D → Option D
  | [.lst ds] => (asInts ds).map fun ns => .int ns.sum
  | _ => none
def allD : List D → Option D
  | [.lst ds] => (asBls ds).map fun bs => .bl (bs.all id)
  | _ => none
def anyD : List D → Option D
  | [.lst ds] => (asBls ds).map fun bs => .bl (bs.any id)
  | _ => none
def tupleD : List D → Option D
  | [.tup ds] => some (.tup ds)
  | [.lst ds] => some (.tup ds)
  | _ => none
def listD : List D → Option (List D)
  | [.tup ds] => some ds
  | [.lst ds] => some ds
  | _ => none
theorem asInts_eq : ∀ {ds : List D} {ns : List Int}, asInts ds = some ns → ds = ns.map .int
  | [], _, h => by cases h; rfl
  | .int i :: r, _, h => by
    simp only [asInts, Option.map_eq_some_iff] at h
    obtain ⟨ns, h, rfl⟩ := h
    rw [asInts_eq h]; rfl
  | .non :: _, _, h => by cases h
  | .bl _ :: _, _, h => by cases h
  | .str _ :: _, _, h => by cases h
  | .tup _ :: _, _, h => by cases h
  | .lst _ :: _, _, h => by cases h
  | .dct _ _ :: _, _, h => by cases h
  | .ins _ _ _ :: _, _, h => by cases h
  | .scr _ :: _, _, h => by cases h
theorem asBls_eq : ∀ {ds : List D} {ns : List Bool}, asBls ds = some ns → ds = ns.map .bl
  | [], _, h => by cases h; rfl
  | .bl i :: r, _, h => by
    simp only [asBls, Option.map_eq_some_iff] at h
    obtain ⟨ns, h, rfl⟩ := h
    rw [asBls_eq h]; rfl
  | .non :: _, _, h => by cases h
  | .int _ :: _, _, h => by cases h
  | .str _ :: _, _, h => by cases h
  | .tup _ :: _, _, h => by cases h
  | .lst _ :: _, _, h => by cases h
  | .dct _ _ :: _, _, h => by cases h
  | .ins _ _ _ :: _, _, h => by cases h
  | .scr _ :: _, _, h => by cases h
theorem asInts_map : ∀ ns : List Int, asInts (ns.map .int) = some ns
  | [] => rfl
  | n :: r => by simp only [List.map_cons, asInts, asInts_map r, Option.map_some]
theorem asBls_map : ∀ ns : List Bool, asBls (ns.map .bl) = some ns
  | [] => rfl
  | n :: r => by simp only [List.map_cons, asBls, asBls_map r, Option.map_some]
theorem Reps.bls {K : PySem.W.Frag} {G : Hp} : ∀ {xs : List V} {ns : List Bool}, Reps K G xs (ns.map D.bl) → xs = ns.map V.bl
  | _, [], .nil => rfl
  | _, _ :: _, .cons h r => by cases h; rw [Reps.bls r]; rfl
section
variable {X : Cx}
theorem Reps.one {K : PySem.W.Frag} {G : Hp} {xs : List V} {d : D} (h : Reps K G xs [d]) : ∃ x, xs = [x] ∧ Rep K G x d := by
  cases h with | cons h r => cases r; exact ⟨_, rfl, h⟩
theorem Reps.pair {K : PySem.W.Frag} {G : Hp} {xs : List V} {d e : D} (h : Reps K G xs [d, e]) : ∃ x y, xs = [x, y] ∧ Rep K G x d ∧ Rep K G y e := by
  cases h with | cons h r => cases r with | cons h2 r => cases r; exact ⟨_, _, rfl, h, h2⟩
theorem cd_len : CallD X (.builtin "len") lenD := ⟨_, call_len, fun S H xs ds d Q al r e k => by
  unfold lenD at e
  split at e
  · cases e
    obtain ⟨x, rfl, q⟩ := r.one
    obtain ⟨a, ys, rfl, h, q⟩ := q.tup_inv
    exact ⟨_, ys.length, rfl, .inr ⟨_, ex_t hide_ex h, rfl⟩, k _ H (Ex.refl H) (by rw [q.length]; exact .int _)⟩
  · cases e
    obtain ⟨x, rfl, q⟩ := r.one
    obtain ⟨a, ys, rfl, h, q⟩ := q.lst_inv
    exact ⟨_, ys.length, rfl, .inl ⟨_, SqL.of (hide_some h).2, rfl⟩, k _ H (Ex.refl H) (by rw [q.length]; exact .int _)⟩
  · cases e
    obtain ⟨x, rfl, q⟩ := r.one
    cases q with
    | scr h => exact ⟨_, _, rfl, .inl ⟨_, ex_l hide_ex h, rfl⟩, k _ H (Ex.refl H) (by rw [List.length_map]; exact .int _)⟩
  · split at e
    · rename_i hh
      cases e
      obtain ⟨x, rfl, q⟩ := r.one
      rw [q.str_inv]
      exact ⟨_, _, rfl, ⟨big_line hh, rfl⟩, k _ H (Ex.refl H) (.int _)⟩
    · cases e
  · cases e⟩
theorem cd_abs : CallD X (.builtin "abs") absD := ⟨_, call_abs, fun S H xs ds d Q al r e k => by
  unfold absD at e
  split at e
  · cases e
    obtain ⟨x, rfl, q⟩ := r.one
    rw [q.int_inv]
    exact ⟨_, rfl, k _ H (Ex.refl H) (.int _)⟩
  · cases e⟩
theorem cd_max2 (hc : X.calm = true) : CallD X (.builtin "max") max2D := ⟨_, call_max2 hc, fun S H xs ds d Q al r e k => by
  unfold max2D at e
  split at e
  · cases e
    obtain ⟨x, y, rfl, q1, q2⟩ := r.pair
    rw [q1.int_inv, q2.int_inv]
    exact ⟨_, _, rfl, k _ H (Ex.refl H) (.int _)⟩
  · cases e⟩
theorem cd_min2 (hc : X.calm = true) : CallD X (.builtin "min") min2D := ⟨_, call_min2 hc, fun S H xs ds d Q al r e k => by
  unfold min2D at e
  split at e
  · cases e
    obtain ⟨x, y, rfl, q1, q2⟩ := r.pair
    rw [q1.int_inv, q2.int_inv]
    exact ⟨_, _, rfl, k _ H (Ex.refl H) (.int _)⟩
  · cases e⟩
theorem cd_int : CallD X (.type "int") intD := ⟨_, call_int1, fun S H xs ds d Q al r e k => by
  unfold intD at e
  split at e
  · cases e
    obtain ⟨x, rfl, q⟩ := r.one
    rw [q.int_inv]
    exact .inl ⟨_, rfl, k _ H (Ex.refl H) (.int _)⟩
  · cases e
    obtain ⟨x, rfl, q⟩ := r.one
    rw [q.bl_inv]
    exact .inr ⟨_, rfl, k _ H (Ex.refl H) (.int _)⟩
  · cases e⟩
theorem cd_str : CallD X (.type "str") strID := ⟨_, call_str_int, fun S H xs ds d Q al r e k => by
  unfold strID at e
  split at e
  · split at e
    · rename_i hh
      cases e
      obtain ⟨x, rfl, q⟩ := r.one
      rw [q.int_inv]
      exact ⟨_, rfl, hh, k _ H (Ex.refl H) (.str _)⟩
    · cases e
  · cases e⟩
theorem cd_sum (hc : X.calm = true) : CallD X (.builtin "sum") sumD := ⟨_, cr_sum hc, fun S H xs ds d Q al r e k => by
  unfold sumD at e
  split at e
  · rename_i es
    obtain ⟨x, rfl, q⟩ := r.one
    obtain ⟨a, ys, rfl, h, q⟩ := q.lst_inv
    simp only [Option.map_eq_some_iff] at e
    obtain ⟨ns, e, rfl⟩ := e
    have := asInts_eq e
    subst this
    rw [q.ints] at h
    exact ⟨a, ns, rfl, SqL.of (hide_some h).2, k _ H (Ex.refl H) (.int _)⟩
  · cases e⟩
theorem cd_all (hc : X.calm = true) : CallD X (.builtin "all") allD := ⟨_, cr_all hc, fun S H xs ds d Q al r e k => by
  unfold allD at e
  split at e
  · rename_i es
    obtain ⟨x, rfl, q⟩ := r.one
    obtain ⟨a, ys, rfl, h, q⟩ := q.lst_inv
    simp only [Option.map_eq_some_iff] at e
    obtain ⟨ns, e, rfl⟩ := e
    have := asBls_eq e
    subst this
    rw [q.bls] at h
    exact ⟨a, ns, rfl, SqL.of (hide_some h).2, k _ H (Ex.refl H) (.bl _)⟩
  · cases e⟩
theorem cd_any (hc : X.calm = true) : CallD X (.builtin "any") anyD := ⟨_, cr_any hc, fun S H xs ds d Q al r e k => by
  unfold anyD at e
  split at e
  · rename_i es
    obtain ⟨x, rfl, q⟩ := r.one
    obtain ⟨a, ys, rfl, h, q⟩ := q.lst_inv
    simp only [Option.map_eq_some_iff] at e
    obtain ⟨ns, e, rfl⟩ := e
    have := asBls_eq e
    subst this
    rw [q.bls] at h
    exact ⟨a, ns, rfl, SqL.of (hide_some h).2, k _ H (Ex.refl H) (.bl _)⟩
  · cases e⟩
theorem cd_tuple : CallD X (.type "tuple") tupleD := ⟨_, call_tuple_of, fun S H xs ds d Q al r e k => by
  unfold tupleD at e
  split at e
  · cases e
    obtain ⟨x, rfl, q⟩ := r.one
    obtain ⟨a, ys, rfl, h, q⟩ := q.tup_inv
    exact ⟨a, ys, rfl, .inr ⟨ex_t hide_ex h, k _ H (Ex.refl H) (.tup h q)⟩⟩
  · cases e
    obtain ⟨x, rfl, q⟩ := r.one
    obtain ⟨a, ys, rfl, h, q⟩ := q.lst_inv
    exact ⟨a, ys, rfl, .inl ⟨SqL.of (hide_some h).2, fun p hp => k _ _ (newT al hp q).1 (newT al hp q).2⟩⟩
  · cases e⟩
theorem cl_list : CallL X (.type "list") listD := ⟨_, call_list_of, fun S H xs ds es Q al r e k => by
  unfold listD at e
  split at e
  · cases e
    obtain ⟨x, rfl, q⟩ := r.one
    obtain ⟨a, ys, rfl, h, q⟩ := q.tup_inv
    exact ⟨a, ys, rfl, .inr (ex_t hide_ex h), fun p hp => k ys p hp q⟩
  · cases e
    obtain ⟨x, rfl, q⟩ := r.one
    obtain ⟨a, ys, rfl, h, q⟩ := q.lst_inv
    exact ⟨a, ys, rfl, .inl (SqL.of (hide_some h).2), fun p hp => k ys p hp q⟩
  · cases e⟩
end
/-! ### isinstance -/
/-- what an own class brings -/
structure ClsF (K : PySem.W.Frag) (c : Str) : Prop where
  cl : Cls K (He.ga K c)
  ha : PySem.W.findIn K (.ref (He.ga K c)) "__class__" = some (some (.builtin "object.__class__"))
  hn : PySem.W.specialIn K (.builtin "object.__class__") "__get__" = some (some (.builtin "getset_descriptor.__get__"))
  htk : PySem.W.takesIn K (.builtin "object.__class__") = some true
  hm : PySem.W.mroIn K (He.ga K c) (.type "object") = some true
  noB : ∀ T ∈ (["int", "bool", "str", "tuple", "list", "dict"] : List String), PySem.W.kitOne K (.ref (He.ga K c)) (.type T) = some false
def tyN : D → String
  | .non => "NoneType"
  | .bl _ => "bool"
  | .int _ => "int"
  | .str _ => "str"
  | .tup _ => "tuple"
  | .lst _ => "list"
  | .scr _ => "list"
  | .dct _ _ => "dict"
  | .ins _ _ _ => ""
def subT : String → String → Bool
  | "bool", "int" => true
  | a, b => a == b
def isiT (cs : List Str) (T : String) : D → Option Bool
  | .ins c _ _ => if c ∈ cs then some false else none
  | d => some (subT (tyN d) T)
/-- an own class c of the classes cs -/
def isiC (cs : List Str) (c : Str) : D → Option Bool
  | .ins c' _ _ => if c' ∈ cs then some (c' == c) else none
  | _ => some false
theorem Rep.ty {K : PySem.W.Frag} {G H : Hp} {v : V} {d : D} (e : Ex G H) (h : Rep K G v d) (hi : ∀ c ns vs, d ≠ .ins c ns vs) : TyX K H v (.type (tyN d)) := by
  cases h with
  | non => exact .base .non
  | bl b => exact .base (.bl b)
  | int b => exact .base (.int b)
  | str b => exact .base (.str b)
  | tup h r =>
    rcases h with (h | ⟨o, h⟩) | ⟨o, its, n, hk, hc, _⟩
    · exact .base (.tup (e _ _ h))
    · exact .fTuple (e _ _ h)
    · exact .kTuple hk hc
  | lst h r => exact .base (.lst (e _ _ h))
  | scr h =>
    rcases h with (h | ⟨o, h⟩) | ⟨o, its, n, hk, hc, _⟩
    · exact .base (.lst (e _ _ h))
    · exact .base (.frz (e _ _ h))
    · exact .kList hk hc
  | dK h r => exact .base (.dK (e _ _ h))
  | dT h r => exact .base (.dT (e _ _ h))
  | ins h r => exact absurd rfl (hi _ _ _)
theorem Rep.tyI {K : PySem.W.Frag} {G H : Hp} {v : V} {c : Str} {ns : List Str} {vs : List D} (e : Ex G H) (h : Rep K G v (.ins c ns vs)) (F : ClsF K c) : TyX K H v (.ref (He.ga K c)) := by
  generalize hd : D.ins c ns vs = d at h
  cases h with
  | ins h r => injection hd with h1 h2 h3; subst h1; exact .base (.ins (e _ _ h) F.cl F.ha F.hn F.htk F.hm)
  | _ => cases hd
/-- isinstance(e, C) -/
def IsiOk (K : PySem.W.Frag) (u : Value) (g : D → Option Bool) : Prop := ∀ (G H : Hp) (v : V) (d : D) (b : Bool), Ex G H → Rep K G v d → g d = some b → ∃ t, TyX K H v t ∧ PySem.W.kitOne K t u = some b
@[simp] def isiM (g : D → Option Bool) (ma : M D) : M D := fun ρ => (ma ρ).bd fun d ρ1 => ofO ((g d).map .bl) ρ1
section
variable {X : Cx} {Wx : WX}
theorem isi_ty {K : PySem.W.Frag} {cs : List Str} {T : String} (hT : T ∈ (["int", "bool", "str", "tuple", "list", "dict"] : List String)) (hcs : ∀ c ∈ cs, ClsF K c) : IsiOk K (.type T) (isiT cs T) := fun G H v d b e r h => by
  by_cases hi : ∀ c ns vs, d ≠ .ins c ns vs
  · refine ⟨_, r.ty e hi, ?_⟩
    have h : b = subT (tyN d) T := by
      cases d with
      | ins c ns vs => exact absurd rfl (hi _ _ _)
      | _ => exact (Option.some.inj h).symm
    subst h
    refine kit_ty ?_
    have : tyN d ∈ (["NoneType", "bool", "int", "str", "tuple", "list", "dict"] : List String) := by
      cases d with
      | ins c ns vs => exact absurd rfl (hi _ _ _)
      | _ => simp [tyN]
    generalize tyN d = n at this
    have all : ∀ n ∈ (["NoneType", "bool", "int", "str", "tuple", "list", "dict"] : List String), ∀ T ∈ (["int", "bool", "str", "tuple", "list", "dict"] : List String), kitB n T = some (subT n T) := by decide +kernel
    exact all n this T hT
  · cases d with
    | ins c ns vs =>
      simp only [isiT] at h
      split at h
      · rename_i hc
        cases h
        exact ⟨_, r.tyI e (hcs c hc), (hcs c hc).noB T hT⟩
      · cases h
    | _ => exact absurd (fun _ _ _ z => by cases z) hi
theorem isi_cls {K : PySem.W.Frag} {cs : List Str} {c : Str} (hB : ∀ T ∈ (["NoneType", "bool", "int", "str", "tuple", "list", "dict"] : List String), PySem.W.kitOne K (.type T) (.ref (He.ga K c)) = some false) (hcs : ∀ c' ∈ cs, ClsF K c')
    (hC : ∀ c' ∈ cs, PySem.W.kitOne K (.ref (He.ga K c')) (.ref (He.ga K c)) = some (c' == c)) : IsiOk K (.ref (He.ga K c)) (isiC cs c) := fun G H v d b e r h => by
  by_cases hi : ∀ c ns vs, d ≠ .ins c ns vs
  · refine ⟨_, r.ty e hi, ?_⟩
    have h : b = false := by
      cases d with
      | ins c ns vs => exact absurd rfl (hi _ _ _)
      | _ => exact (Option.some.inj h).symm
    subst h
    refine hB _ ?_
    cases d with
    | ins c ns vs => exact absurd rfl (hi _ _ _)
    | _ => simp [tyN]
  · cases d with
    | ins c' ns vs =>
      simp only [isiC] at h
      split at h
      · rename_i hc
        cases h
        exact ⟨_, r.tyI e (hcs c' hc), hC c' hc⟩
      · cases h
    | _ => exact absurd (fun _ _ _ z => by cases z) hi
theorem px_isi {x y : Str} {u : Value} {c : V} {p p2 pos : Pos} {e : Expr} {ma : M D} {g : D → Option Bool} (hk : ClsV c u) (hg : IsiOk X.K u g) (hm : X.mg x = none) (ha : PD X Wx e ma) (hc : PE X (.Name y p2) (tC c)) (hv : bootBuiltins x = some (.builtin "isinstance") := by decide +kernel) (hgl : Gl X x := by rfl)
    (hn : x ≠ "__name__" := by decide) (hdb : (x == ("__debug__" : Str)) = false := by decide) (h1 : starEach [e, .Name y p2] X.env = (false, eval e X.env) :: starEach [.Name y p2] X.env := by rfl) (h2 : starEach [.Name y p2] X.env = (false, eval (.Name y p2) X.env) :: starEach [] X.env := by rfl)
    (hpl : (backTo pos (starEach [.Name y p2] X.env)).any (·.1) = false := by rfl) : PD X Wx (.Call (.Name x p) [e, .Name y p2] [] pos) (isiM g ma) := by
  have hA : PA X [e, .Name y p2] (tCons (tE X.K Wx (vl ma)) (tCons (tC c) tNil)) := pa_cons ha (pa_cons hc pa_nil h2) h1
  refine PE_imp (pe_callB call_isi hgl hm hv hA hn hdb h1 hpl) fun σ H Q h => ?_
  obtain ⟨ρ, L, W, rl, p⟩ := h
  simp only [vl, isiM, map_bd] at p
  refine bd_D (T := Post X.K Wx σ L W H Q) rl p fun x d ρ1 W1 H1 st1 rl1 q1 p => ?_
  obtain ⟨d', e', p⟩ := Post.ofO p
  simp only [Option.map_eq_some_iff] at e'
  obtain ⟨b, e', rfl⟩ := e'
  obtain ⟨t, ht, hb⟩ := hg _ H1 _ _ _ hide_ex q1 e'
  exact ⟨x, c, t, u, b, rfl, hk, ht, hb, (p.step st1).here rl1 (Ex.refl _) (.bl b)⟩
theorem px_isiT {x y : Str} {cs : List Str} {T : String} {p p2 pos : Pos} {e : Expr} {ma : M D} (hcs : ∀ c ∈ cs, ClsF X.K c) (hm : X.mg x = none) (hmy : X.mg y = none) (ha : PD X Wx e ma) (hT : T ∈ (["int", "bool", "str", "tuple", "list", "dict"] : List String) := by decide) (hvy : bootBuiltins y = some (.type T) := by decide +kernel) (hgy : Gl X y := by rfl)
    (hny : y ≠ "__name__" := by decide) (hdy : (y == ("__debug__" : Str)) = false := by decide) (hv : bootBuiltins x = some (.builtin "isinstance") := by decide +kernel) (hgl : Gl X x := by rfl)
    (hn : x ≠ "__name__" := by decide) (hdb : (x == ("__debug__" : Str)) = false := by decide) (h1 : starEach [e, .Name y p2] X.env = (false, eval e X.env) :: starEach [.Name y p2] X.env := by rfl) (h2 : starEach [.Name y p2] X.env = (false, eval (.Name y p2) X.env) :: starEach [] X.env := by rfl)
    (hpl : (backTo pos (starEach [.Name y p2] X.env)).any (·.1) = false := by rfl) : PD X Wx (.Call (.Name x p) [e, .Name y p2] [] pos) (isiM (isiT cs T) ma) :=
  px_isi (c := .ty T) (u := .type T) (.ty T) (isi_ty hT hcs) hm ha (pe_bltn hgy hmy hvy rfl hny hdy) hv hgl hn hdb h1 h2 hpl
end
end P
/-! The P-layer, 9: subscripts, displays, what is walked, lists that are owned. -/
namespace P
open PySem PySem.Spec PyProof.Rows L2

/-! ### subscripts -/
def ixD : D → D → Option D
  | .tup ds, .int i => atI ds i
  | .lst ds, .int i => atI ds i
  | .scr ns, .int i => (atI ns i).map .int
  | .str x, .int i => if x.length ≤ 1000000 then (atI x.cps.toList i).map fun c => .str ⟨#[c]⟩ else none
  | _, _ => none
theorem Reps.atI {K : PySem.W.Frag} {G : Hp} {xs : List V} {ds : List D} {i : Int} {d : D} (h : Reps K G xs ds) (e : L2.atI ds i = some d) : ∃ x, L2.atI xs i = some x ∧ Rep K G x d := by
  unfold L2.atI at e ⊢
  rw [h.length]
  cases q : ixN ds.length i with
  | none => rw [q] at e; cases e
  | some j =>
    rw [q] at e
    obtain ⟨x, h1, h2⟩ := h.get (i := j) (by simpa using e)
    exact ⟨x, by simpa using h1, h2⟩
theorem atI_map {α β : Type} (f : α → β) (xs : List α) (i : Int) : L2.atI (xs.map f) i = (L2.atI xs i).map f := by
  unfold L2.atI
  rw [List.length_map]
  cases ixN xs.length i with
  | none => rfl
  | some j => simp
section
variable {X : Cx} {Wx : WX}
def IxDd (X : Cx) (g : D → D → Option D) : Prop := ∃ r : R2, IxR X r ∧ OpOk X.K r g
theorem ixd_seq : IxDd X ixD := ⟨_, ix_seq, fun S H x y dx dy d Q al rx ry e k => by
  unfold ixD at e
  split at e
  · obtain ⟨a, xs, rfl, h, q⟩ := rx.tup_inv
    obtain ⟨v, hv, qv⟩ := q.atI e
    rw [ry.int_inv]
    exact .inr (.inl ⟨a, xs, _, v, rfl, rfl, ex_t hide_ex h, hv, k _ H (Ex.refl H) qv⟩)
  · obtain ⟨a, xs, rfl, h, q⟩ := rx.lst_inv
    obtain ⟨v, hv, qv⟩ := q.atI e
    rw [ry.int_inv]
    exact .inl ⟨a, xs, _, v, rfl, rfl, SqL.of (hide_some h).2, hv, k _ H (Ex.refl H) qv⟩
  · cases rx with
    | scr h =>
      simp only [Option.map_eq_some_iff] at e
      obtain ⟨n, hn, rfl⟩ := e
      rw [ry.int_inv]
      exact .inl ⟨_, _, _, .int n, rfl, rfl, ex_l hide_ex h, by rw [atI_map, hn]; rfl, k _ H (Ex.refl H) (.int _)⟩
  · split at e
    · rename_i hh
      simp only [Option.map_eq_some_iff] at e
      obtain ⟨c, hc, rfl⟩ := e
      rw [rx.str_inv, ry.int_inv]
      exact .inr (.inr ⟨_, _, c, rfl, rfl, big_line hh, hc, k _ H (Ex.refl H) (.str _)⟩)
    · cases e
  · cases e⟩
theorem px_ix {a b : Expr} {pos : Pos} {ma mb : M D} {g : D → D → Option D} (ho : IxDd X g) (ha : PD X Wx a ma) (hb : PD X Wx b mb) (hs : PlainIx b := by exact fun _ _ => rfl) : PD X Wx (.Subscript a b pos) (bop g ma mb) := by
  obtain ⟨r, h1, h2⟩ := ho
  exact PE_imp (pe_ix h1 ha hb hs) fun σ H Q h => two h2 h
/-! ### slices -/
@[simp] def noP : M (Option Int) := fun ρ => .ok none ρ
@[simp] def someP (m : M D) : M (Option Int) := fun ρ => (m ρ).bd fun d ρ1 => match d with
  | .int i => .ok (some i) ρ1
  | _ => .stuck
def PostO (K : PySem.W.Frag) (Wx : WX) (σ : L2.St) (L W : List Addr) (H : Hp) (Q : Option Int → Hp → Prop) : Res (Option Int) → Prop
  | .ok o ρ' => ∀ W' H', Stp L W H W' H' → Rl K L W' ρ' σ H' → Q o H'
  | .er e ρ' => ∀ c dd W' H', Stp L W H W' H' → Rl K L W' ρ' σ H' → ErrRep K (hide H' (W' ++ L)) c dd e → Wx c dd σ H'
  | .stuck => False
def tO (K : PySem.W.Frag) (Wx : WX) (m : M (Option Int)) : TO := fun σ H Q => ∃ ρ L W, Rl K L W ρ σ H ∧ PostO K Wx σ L W H Q (m ρ)
def PPart (X : Cx) (Wx : WX) (e : Option Expr) (m : M (Option Int)) : Prop := PO X e (tO X.K Wx m)
theorem PO_imp {X : Cx} {e : Option Expr} {t t' : TO} (h : PO X e t) (i : ∀ σ H Q, t' σ H Q → t σ H Q) : PO X e t' := ⟨fun pins s σ H Q I q => h.run pins s σ H Q I (i σ H Q q)⟩
theorem ppt_none : PPart X Wx none noP := PO_imp po_none fun σ H Q h => by
  obtain ⟨ρ, L, W, rl, p⟩ := h
  exact p W H .refl rl
theorem ppt_some {e : Expr} {m : M D} (h : PD X Wx e m) : PPart X Wx (some e) (someP m) := PO_imp (po_some h) fun σ H Q h => by
  obtain ⟨ρ, L, W, rl, p⟩ := h
  refine bd_D (T := PostO X.K Wx σ L W H Q) rl p fun x d ρ1 W1 H1 st1 rl1 q1 p => ?_
  cases d with
  | int i => exact ⟨i, q1.int_inv, p W1 H1 st1 rl1⟩
  | _ => exact p.elim
def cutD (ds : List D) (lo hi : Option Int) : List D := (ds.drop (HT.sIx ds.length 0 lo)).take (HT.sIx ds.length ds.length hi - HT.sIx ds.length 0 lo)
theorem cut_whole {ds : List D} {lo hi : Option Int} (h1 : HT.sIx ds.length 0 lo = 0) (h2 : HT.sIx ds.length ds.length hi = ds.length) : cutD ds lo hi = ds := by
  unfold cutD
  rw [h1, h2, List.drop_zero, Nat.sub_zero, List.take_length]
def sliceD : D → Option Int → Option Int → Option D
  | .tup ds, lo, hi => some (.tup (cutD ds lo hi))
  | .lst ds, lo, hi => some (.lst (cutD ds lo hi))
  | _, _, _ => none
theorem Reps.cut {K : PySem.W.Frag} {G : Hp} {xs : List V} {ds : List D} (h : Reps K G xs ds) (lo hi : Option Int) : Reps K G (cutV xs lo hi) (cutD ds lo hi) := by
  unfold cutV cutD
  rw [h.length]
  exact (h.drop _).take _
@[simp] def sliceM (m : M D) (ml mh : M (Option Int)) : M D := fun ρ => (m ρ).bd fun d ρ1 => (ml ρ1).bd fun lo ρ2 => (mh ρ2).bd fun hi ρ3 => ofO (sliceD d lo hi) ρ3
theorem bd_O {β : Type} {T : Res β → Prop} {K : PySem.W.Frag} {L W : List Addr} {ρ : Env} {σ : L2.St} {H : Hp} {ma : M (Option Int)} {k : Option Int → Env → Res β} {R : Option Int → Hp → Prop} (r : Rl K L W ρ σ H) (p : T ((ma ρ).bd k)) (hR : ∀ b ρ1 W1 H1, Stp L W H W1 H1 → Rl K L W1 ρ1 σ H1 → T (k b ρ1) → R b H1)
    (hs : T .stuck → False := by exact id) (he : ∀ e ρ', T (.er e ρ') → ErP K Wx σ L W H e ρ' := by exact fun _ _ h => h) : tO K Wx ma σ H R := by
  refine ⟨ρ, L, W, r, ?_⟩
  revert p
  cases ma ρ with
  | stuck => exact hs
  | er e ρ' => exact he e ρ'
  | ok d ρ' => exact fun p W' H' st rl => hR d ρ' W' H' st rl p
theorem px_slice {e : Expr} {lo hi : Option Expr} {p2 pos : Pos} {m : M D} {ml mh : M (Option Int)} (h : PD X Wx e m) (hl : PPart X Wx lo ml) (hh : PPart X Wx hi mh) : PD X Wx (.Subscript e (.Slice lo hi none p2) pos) (sliceM m ml mh) := by
  refine PE_imp (pe_slice (sl_list.or sl_tupA) h hl hh) fun σ H Q h => ?_
  obtain ⟨ρ, L, W, rl, p⟩ := h
  simp only [vl, sliceM, map_bd] at p
  refine bd_D (T := Post X.K Wx σ L W H Q) rl p fun x d ρ1 W1 H1 st1 rl1 q1 p => ?_
  refine bd_O (T := Post X.K Wx σ L W1 H1 Q) rl1 (Post.step st1 p) fun lo ρ2 W2 H2 st2 rl2 p => ?_
  refine bd_O (T := Post X.K Wx σ L W2 H2 Q) rl2 (Post.step st2 p) fun hi ρ3 W3 H3 st3 rl3 p => ?_
  obtain ⟨d', e', p⟩ := Post.ofO p
  have q3 := st3.rep (st2.rep q1)
  have p := p.step st3
  unfold sliceD at e'
  split at e'
  · cases e'
    obtain ⟨a, xs, rfl, h, q⟩ := q3.tup_inv
    refine .inr ⟨a, xs, rfl, ex_t hide_ex h, fun w => ?_, fun _ pp hp => p.here rl3 (newT rl3.alloc hp (q.cut lo hi)).1 (newT rl3.alloc hp (q.cut lo hi)).2⟩
    refine p.here rl3 (Ex.refl _) ?_
    rw [cut_whole (by rw [← q.length]; exact w.1) (by rw [← q.length]; exact w.2)]
    exact .tup h q
  · cases e'
    obtain ⟨a, xs, rfl, h, q⟩ := q3.lst_inv
    exact .inl ⟨a, xs, rfl, SqL.of (hide_some h).2, fun pp hp => p.here rl3 (newLst rl3.alloc hp (q.cut lo hi)).1 (newLst rl3.alloc hp (q.cut lo hi)).2⟩
  · cases e'
/-! ### displays -/
@[simp] def tupM (ma : M (List D)) : M D := fun ρ => (ma ρ).bd fun ds ρ1 => if ds.length ≤ 1000000 then .ok (.tup ds) ρ1 else .stuck
@[simp] def lstM (ma : M (List D)) : M Slot := fun ρ => (ma ρ).bd fun ds ρ1 => if ds.length ≤ 1000000 then .ok (.ownL (ds.map .val)) ρ1 else .stuck
theorem px_tup {es : List Expr} {k : Nat} {pos : Pos} {ma : M (List D)} (h : PAs X Wx es ma) : PD X Wx (.Tuple es k pos) (tupM ma) := by
  refine PE_imp (pe_tup h) fun σ H Q h => ?_
  obtain ⟨ρ, L, W, rl, p⟩ := h
  simp only [vl, tupM, map_bd] at p
  refine bd_A (T := Post X.K Wx σ L W H Q) rl p fun vs ds ρ1 W1 H1 st1 rl1 q1 p => ?_
  by_cases c : ds.length ≤ 1000000
  · rw [if_pos c] at p
    exact ⟨big_line (by rw [q1.length]; exact c), fun pp hp => (Post.step (r := .ok (.val (.tup ds)) ρ1) st1 p).here rl1 (newT rl1.alloc hp q1).1 (newT rl1.alloc hp q1).2⟩
  · rw [if_neg c] at p
    exact p.elim
theorem px_lst {es : List Expr} {pos : Pos} {ma : M (List D)} (h : PAs X Wx es ma) : PX X Wx (.List es pos) (lstM ma) := by
  refine PE_imp (pe_lst h) fun σ H Q h => ?_
  obtain ⟨ρ, L, W, rl, p⟩ := h
  refine bd_A (T := Post X.K Wx σ L W H Q) rl p fun vs ds ρ1 W1 H1 st1 rl1 q1 p => ?_
  by_cases c : ds.length ≤ 1000000
  · rw [if_pos c] at p
    refine ⟨big_line (by rw [q1.length]; exact c), fun pp hp => ?_⟩
    exact (Post.step (r := .ok (.ownL (ds.map .val)) ρ1) st1 p).newL rl1 (Ex.new hp) hp upd_same (q1.mono (hide_mono (Ex.new hp) fun a h => by
      simp only [List.cons_append, List.mem_cons] at h
      rcases h with h | h
      · subst h; exact .inr hp
      · exact .inl h))
  · rw [if_neg c] at p
    exact p.elim

/-! ### what is walked -/
theorem PI_imp {tg iter : Expr} {t t' : TI} (h : PI X tg iter t) (i : ∀ σ H R, t' σ H R → t σ H R) : PI X tg iter t' := ⟨fun pins s σ H Q I q => h.run pins s σ H Q I (i σ H Q q)⟩
theorem bd_I {K : PySem.W.Frag} {L W : List Addr} {ρ : Env} {σ : L2.St} {H : Hp} {R : It → Hp → Prop} {ma : M (List D)} {k : List D → Option (List D)} {R' : List V → Hp → Prop} (r : Rl K L W ρ σ H) (p : PostI K Wx σ L W H R ((ma ρ).bd fun ds ρ1 => ofO (k ds) ρ1))
    (hR : ∀ xs ds es ρ1 W1 H1, Rl K L W1 ρ1 σ H1 → Reps K (hide H1 (W1 ++ L)) xs ds → k ds = some es → (∀ J, ItOk K L W1 H1 J es → R J H1) → R' xs H1) : tA K Wx ma σ H R' := by
  refine bd_A (T := PostI K Wx σ L W H R) r p fun xs ds ρ1 W1 H1 st1 rl1 q1 p => ?_
  cases e : k ds with
  | none => rw [e] at p; exact p.elim
  | some es => rw [e] at p; exact hR xs ds es ρ1 W1 H1 rl1 q1 e fun J it => p J W1 H1 st1 rl1 it
theorem bd_I1 {K : PySem.W.Frag} {L W : List Addr} {ρ : Env} {σ : L2.St} {H : Hp} {R : It → Hp → Prop} {ma : M D} {k : D → Option (List D)} {R' : V → Hp → Prop} (r : Rl K L W ρ σ H) (p : PostI K Wx σ L W H R ((ma ρ).bd fun ds ρ1 => ofO (k ds) ρ1))
    (hR : ∀ x d es ρ1 W1 H1, Rl K L W1 ρ1 σ H1 → Rep K (hide H1 (W1 ++ L)) x d → k d = some es → (∀ J, ItOk K L W1 H1 J es → R J H1) → R' x H1) : tE K Wx (vl ma) σ H R' := by
  refine bd_D (T := PostI K Wx σ L W H R) r p fun xs ds ρ1 W1 H1 st1 rl1 q1 p => ?_
  cases e : k ds with
  | none => rw [e] at p; exact p.elim
  | some es => rw [e] at p; exact hR xs ds es ρ1 W1 H1 rl1 q1 e fun J it => p J W1 H1 st1 rl1 it
def itL : D → Option (List D)
  | .lst ds => some ds
  | .scr ns => some (ns.map .int)
  | _ => none
def itT : D → Option (List D)
  | .tup ds => some ds
  | _ => none
theorem ok_list {K : PySem.W.Frag} {L W : List Addr} {H : Hp} {a : Addr} {xs : List V} {ds : List D} (h : SqL K (hide H (W ++ L)) a xs) (q : Reps K (hide H (W ++ L)) xs ds) : ItOk K L W H (Itl K a) ds := fun W1 H1 st al => by
  have h1 := ex_l (st.ex.trans hide_ex) h
  refine ⟨fun i hi => ⟨xs, h1, by rw [q.length]; exact hi⟩, fun i d hd => ?_⟩
  obtain ⟨x, hx, qx⟩ := q.get hd
  exact ⟨⟨xs, x, h1, hx⟩, fun y H' ⟨e, hy⟩ => by subst e; cases (hy xs h1).symm.trans hx; exact ⟨Ex.refl _, st.rep qx⟩⟩
theorem ok_tup {K : PySem.W.Frag} {L W : List Addr} {H : Hp} {a : Addr} {xs : List V} {ds : List D} (h : SqT K (hide H (W ++ L)) a xs) (q : Reps K (hide H (W ++ L)) xs ds) : ItOk K L W H (Itt K a) ds := fun W1 H1 st al => by
  have h1 := ex_t (st.ex.trans hide_ex) h
  refine ⟨fun i hi => ⟨xs, h1, by rw [q.length]; exact hi⟩, fun i d hd => ?_⟩
  obtain ⟨x, hx, qx⟩ := q.get hd
  exact ⟨⟨xs, x, h1, hx⟩, fun y H' ⟨e, hy⟩ => by subst e; cases (hy xs h1).symm.trans hx; exact ⟨Ex.refl _, st.rep qx⟩⟩
@[simp] def iterM (k : D → Option (List D)) (m : M D) : M (List D) := fun ρ => (m ρ).bd fun d ρ1 => ofO (k d) ρ1
theorem pit_list {tg e : Expr} {m : M D} (h : PD X Wx e m) : PIt X Wx tg e (iterM itL m) := by
  refine PI_imp (pi_list h) fun σ H R hq => ?_
  obtain ⟨ρ, L, W, rl, p⟩ := hq
  refine bd_I1 rl p fun x d es ρ1 W1 H1 rl1 q e k => ?_
  unfold itL at e
  split at e
  · cases e
    obtain ⟨a, xs, rfl, h, q⟩ := q.lst_inv
    exact ⟨a, rfl, ⟨xs, SqL.of (hide_some h).2⟩, k _ (ok_list (SqL.of h) q)⟩
  · cases e
    cases q with
    | scr h => exact ⟨_, rfl, ⟨_, ex_l hide_ex h⟩, k _ (ok_list h (reps_ints _))⟩
  · cases e
theorem pit_tup {tg e : Expr} {m : M D} (h : PD X Wx e m) : PIt X Wx tg e (iterM itT m) := by
  refine PI_imp (pi_tup h) fun σ H R hq => ?_
  obtain ⟨ρ, L, W, rl, p⟩ := hq
  refine bd_I1 rl p fun x d es ρ1 W1 H1 rl1 q e k => ?_
  unfold itT at e
  split at e
  · cases e
    obtain ⟨a, xs, rfl, h, q⟩ := q.tup_inv
    exact ⟨a, rfl, ⟨xs, ex_t hide_ex h⟩, k _ (ok_tup h q)⟩
  · cases e
def rngL (lo : Int) (n : Nat) : List D := (List.range n).map fun i => .int (lo + (i : Nat))
theorem ok_range {K : PySem.W.Frag} {L W : List Addr} {H : Hp} {lo : Int} {n : Nat} : ItOk K L W H (Itr lo n) (rngL lo n) := fun W1 H1 st al => by
  refine ⟨fun i hi => by
    show n ≤ i
    simpa [rngL] using hi, fun i d hd => ?_⟩
  have hi : i < n := by
    have := (List.getElem?_eq_some_iff.mp hd).1
    simpa [rngL] using this
  refine ⟨hi, fun x H' ⟨e, hx⟩ => ?_⟩
  subst e hx
  have : d = .int (lo + (i : Nat)) := by
    have h2 : (rngL lo n)[i]? = some (.int (lo + (i : Nat))) := by
      unfold rngL
      rw [List.getElem?_map, List.getElem?_range hi]; rfl
    exact Option.some.inj (hd.symm.trans h2)
  subst this
  exact ⟨Ex.refl _, .int _⟩
def rng1 : List D → Option (List D)
  | [.int n] => if -1000000000 ≤ n ∧ n ≤ 1000000000 then some (rngL 0 n.toNat) else none
  | _ => none
def rng2 : List D → Option (List D)
  | [.int a, .int n] => if (-1000000000 ≤ a ∧ a ≤ 1000000000) ∧ (-1000000000 ≤ n ∧ n ≤ 1000000000) then some (rngL a (n - a).toNat) else none
  | _ => none
@[simp] def iterA (k : List D → Option (List D)) (m : M (List D)) : M (List D) := fun ρ => (m ρ).bd fun ds ρ1 => ofO (k ds) ρ1
theorem pit_range1 {tg a : Expr} {p pos : Pos} {m : M (List D)} (hm : X.mg "range" = none) (ha : PAs X Wx [a] m) (hg : Gl X "range" := by rfl) (hs : starEach [a] X.env = [(false, eval a X.env)] := by rfl) : PIt X Wx tg (.Call (.Name "range" p) [a] [] pos) (iterA rng1 m) := by
  refine PI_imp (pi_range1 hg hm ha hs) fun σ H R hq => ?_
  obtain ⟨ρ, L, W, rl, p⟩ := hq
  refine bd_I rl p fun xs ds es ρ1 W1 H1 rl1 q e k => ?_
  unfold rng1 at e
  split at e
  · split at e
    · rename_i hh
      cases e
      obtain ⟨x, rfl, q1⟩ := q.one
      rw [q1.int_inv]
      exact ⟨_, rfl, by omega, by omega, by simpa using k _ ok_range⟩
    · cases e
  · cases e
theorem pit_range2 {tg a b : Expr} {p pos : Pos} {m : M (List D)} (hm : X.mg "range" = none) (ha : PAs X Wx [a, b] m) (hg : Gl X "range" := by rfl) (hs : starEach [a, b] X.env = [(false, eval a X.env), (false, eval b X.env)] := by rfl) (hs2 : starEach [b] X.env = [(false, eval b X.env)] := by rfl) :
    PIt X Wx tg (.Call (.Name "range" p) [a, b] [] pos) (iterA rng2 m) := by
  refine PI_imp (pi_range2 hg hm ha hs hs2) fun σ H R hq => ?_
  obtain ⟨ρ, L, W, rl, p⟩ := hq
  refine bd_I rl p fun xs ds es ρ1 W1 H1 rl1 q e k => ?_
  unfold rng2 at e
  split at e
  · split at e
    · rename_i hh
      cases e
      obtain ⟨x, y, rfl, q1, q2⟩ := q.pair
      rw [q1.int_inv, q2.int_inv]
      exact ⟨_, _, rfl, by omega, k _ ok_range⟩
    · cases e
  · cases e
/-- zip of two lists, of two tuples -/
def zipD (xs ys : List D) : List D := (xs.zip ys).map fun p => .tup [p.1, p.2]
def zip2 : List D → Option (List D)
  | [.lst xs, .lst ys] => some (zipD xs ys)
  | [.tup xs, .tup ys] => some (zipD xs ys)
  | _ => none
theorem zipD_get {xs ys : List D} {i : Nat} {d : D} (h : (zipD xs ys)[i]? = some d) : ∃ a b, xs[i]? = some a ∧ ys[i]? = some b ∧ d = .tup [a, b] := by
  unfold zipD at h
  rw [List.getElem?_map, Option.map_eq_some_iff] at h
  obtain ⟨⟨a, b⟩, h, rfl⟩ := h
  obtain ⟨h1, h2⟩ := List.getElem?_zip_eq_some.mp h
  exact ⟨a, b, h1, h2, rfl⟩
theorem ok_zipL {K : PySem.W.Frag} {L W : List Addr} {H : Hp} {a b : Addr} {xs ys : List V} {ds es : List D} (h : SqL K (hide H (W ++ L)) a xs) (q : Reps K (hide H (W ++ L)) xs ds) (h' : SqL K (hide H (W ++ L)) b ys) (q' : Reps K (hide H (W ++ L)) ys es) : ItOk K L W H (Itz K a b) (zipD ds es) := fun W1 H1 st al => by
  have h1 := ex_l (st.ex.trans hide_ex) h
  have h1' := ex_l (st.ex.trans hide_ex) h'
  refine ⟨fun i hi => ⟨xs, ys, h1, h1', ?_⟩, fun i d hd => ?_⟩
  · have : (zipD ds es).length = min ds.length es.length := by simp [zipD]
    rw [q.length, q'.length]; omega
  · obtain ⟨d1, d2, e1, e2, rfl⟩ := zipD_get hd
    obtain ⟨x, hx, qx⟩ := q.get e1
    obtain ⟨y, hy, qy⟩ := q'.get e2
    refine ⟨⟨xs, ys, x, y, h1, h1', hx, hy⟩, fun v H' ⟨T, x', y', e, hT, eH, k1, k2⟩ => ?_⟩
    subst e eH
    cases (k1 xs h1).symm.trans hx
    cases (k2 ys h1').symm.trans hy
    exact newT al hT (.cons (st.rep qx) (.cons (st.rep qy) .nil))
theorem ok_zipT {K : PySem.W.Frag} {L W : List Addr} {H : Hp} {a b : Addr} {xs ys : List V} {ds es : List D} (h : SqT K (hide H (W ++ L)) a xs) (q : Reps K (hide H (W ++ L)) xs ds) (h' : SqT K (hide H (W ++ L)) b ys) (q' : Reps K (hide H (W ++ L)) ys es) : ItOk K L W H (RZ.ItzT K a b) (zipD ds es) := fun W1 H1 st al => by
  have h1 := ex_t (st.ex.trans hide_ex) h
  have h1' := ex_t (st.ex.trans hide_ex) h'
  refine ⟨fun i hi => ⟨xs, ys, h1, h1', ?_⟩, fun i d hd => ?_⟩
  · have : (zipD ds es).length = min ds.length es.length := by simp [zipD]
    rw [q.length, q'.length]; omega
  · obtain ⟨d1, d2, e1, e2, rfl⟩ := zipD_get hd
    obtain ⟨x, hx, qx⟩ := q.get e1
    obtain ⟨y, hy, qy⟩ := q'.get e2
    refine ⟨⟨xs, ys, x, y, h1, h1', hx, hy⟩, fun v H' ⟨T, x', y', e, hT, eH, k1, k2⟩ => ?_⟩
    subst e eH
    cases (k1 xs h1).symm.trans hx
    cases (k2 ys h1').symm.trans hy
    exact newT al hT (.cons (st.rep qx) (.cons (st.rep qy) .nil))
theorem pit_zip {e e2 : Expr} {p pos tpos : Pos} {elts : List Expr} {kk : Nat} {m : M (List D)} (hm : X.mg "zip" = none) (ha : PAs X Wx [e, e2] m) (hg : Gl X "zip" := by rfl)
    (hs : starEach [e, e2] X.env = (false, eval e X.env) :: starEach [e2] X.env := by rfl) (hpl : (backTo pos (starEach [e2] X.env)).any (·.1) = false := by rfl) : PIt X Wx (.Tuple elts kk tpos) (.Call (.Name "zip" p) [e, e2] [] pos) (iterA zip2 m) := by
  refine PI_imp (RZ.pi_zipA hg hm ha hs hpl) fun σ H R hq => ?_
  obtain ⟨ρ, L, W, rl, p⟩ := hq
  refine bd_I rl p fun xs ds es ρ1 W1 H1 rl1 q e k => ?_
  unfold zip2 at e
  split at e
  · cases e
    obtain ⟨x, y, rfl, q1, q2⟩ := q.pair
    obtain ⟨a, xs, rfl, h, q1⟩ := q1.lst_inv
    obtain ⟨b, ys, rfl, h', q2⟩ := q2.lst_inv
    exact ⟨a, b, xs, ys, rfl, .inl ⟨SqL.of (hide_some h).2, SqL.of (hide_some h').2, k _ (ok_zipL (SqL.of h) q1 (SqL.of h') q2)⟩⟩
  · cases e
    obtain ⟨x, y, rfl, q1, q2⟩ := q.pair
    obtain ⟨a, xs, rfl, h, q1⟩ := q1.tup_inv
    obtain ⟨b, ys, rfl, h', q2⟩ := q2.tup_inv
    exact ⟨a, b, xs, ys, rfl, .inr ⟨ex_t hide_ex h, ex_t hide_ex h', k _ (ok_zipT h q1 h' q2)⟩⟩
  · cases e
end
end P
/-! The P-layer, 10: lists that are owned; defs. -/
namespace P
open PySem PySem.Spec PyProof.Rows L2

def valsOf : List Slot → Option (List D)
  | [] => some []
  | .val d :: r => (valsOf r).map (d :: ·)
  | _ :: _ => none
@[simp] theorem valsOf_map : ∀ ds : List D, valsOf (ds.map .val) = some ds
  | [] => rfl
  | d :: r => by simp only [List.map_cons, valsOf, valsOf_map r, Option.map_some]
theorem valsOf_eq : ∀ {ss : List Slot} {ds : List D}, valsOf ss = some ds → ss = ds.map .val
  | [], _, h => by cases h; rfl
  | .val d :: r, _, h => by
    simp only [valsOf, Option.map_eq_some_iff] at h
    obtain ⟨ds, h, rfl⟩ := h
    rw [valsOf_eq h]; rfl
  | .unb :: _, _, h => by cases h
  | .ownL _ :: _, _, h => by cases h
  | .ownD _ _ :: _, _, h => by cases h
  | .ownI _ _ _ :: _, _, h => by cases h
/-- the list that the slot i owns -/
def getL (ρ : Env) (i : Nat) : Option (List D) := match ρ[i]? with
  | some (.ownL ss) => valsOf ss
  | _ => none
@[simp] def ownV (ds : List D) : Slot := .ownL (ds.map .val)
theorem getL_eq {ρ : Env} {i : Nat} {ds : List D} (h : getL ρ i = some ds) : ρ[i]? = some (ownV ds) := by
  unfold getL at h
  split at h
  · rename_i ss e; rw [e, valsOf_eq h]; rfl
  · cases h
section
variable {K : PySem.W.Frag} {G H : Hp}
/-- the slot at i changed where it stands; forgotten -/
theorem RelE.upd : ∀ {W : List Addr} {σ : L2.St} {ρ : Env} {i : Nat} {s : Slot}, RelE K G H W σ ρ → ρ[i]? = some s → s ≠ .unb →
    ∃ (v : V) (A f B : List Addr), σ[i]? = some (some v) ∧ W = A ++ f ++ B ∧ RelS K G H f v s ∧ RelE K G H (A ++ B) σ (ρ.set i .unb) ∧
      ∀ (H' : Hp) (s' : Slot) (f' : List Addr), RelS K G H' f' v s' → (∀ a ∈ A ++ B, H' a = H a) → RelE K G H' (A ++ f' ++ B) σ (ρ.set i s')
  | _, _, _, _, _, .nil, e, _ => by simp at e
  | _, _, _, 0, _, .unb r, e, n => by simp at e; exact absurd e.symm n
  | _, _, _, 0, _, .cons (f := f) (g := g) h r, e, _ => by
    simp at e; subst e
    exact ⟨_, [], f, g, rfl, rfl, h, .unb r, fun H' s' f' h' k => by simpa using RelE.cons h' (r.mono (Ex.refl _) fun a ha => k a (by simp [ha]))⟩
  | _, _, _, i + 1, _, .unb r, e, n => by
    obtain ⟨v, A, f, B, h1, h2, h3, h5, h4⟩ := r.upd (i := i) (by simpa using e) n
    exact ⟨v, A, f, B, by simpa using h1, h2, h3, .unb h5, fun H' s' f' h' k => .unb (h4 H' s' f' h' k)⟩
  | _, _, _, i + 1, _, .cons (f := g) h r, e, n => by
    obtain ⟨v, A, f, B, h1, h2, h3, h5, h4⟩ := r.upd (i := i) (by simpa using e) n
    refine ⟨v, g ++ A, f, B, by simpa using h1, by rw [h2]; simp, h3, by simpa using RelE.cons h h5, fun H' s' f' h' k => ?_⟩
    have := RelE.cons (h.mono (Ex.refl _) fun a ha => k a (by simp [ha])) (h4 H' s' f' h' fun a ha => k a (by
      simp only [List.mem_append] at ha ⊢
      rcases ha with h | h <;> simp [h]))
    simpa using this
end
section
variable {K : PySem.W.Frag} {L W : List Addr} {ρ : Env} {σ : L2.St} {H : Hp}
theorem Rl.own (r : Rl K L W ρ σ H) {i : Nat} {ds : List D} (e : getL ρ i = some ds) : ∃ a xs, σ[i]? = some (some (.ref a)) ∧ H a = some (.lst xs) ∧ Reps K (hide H (W ++ L)) xs ds ∧
    ∀ ys es, Reps K (hide H (W ++ L)) ys es → Rl K L W (ρ.set i (ownV es)) σ (upd H a (.lst ys)) ∧ Stp L W H W (upd H a (.lst ys)) := by
  obtain ⟨v, A, f, B, h1, h2, h3, _, h4⟩ := r.rel.upd (getL_eq e) (by simp)
  cases h3 with
  | @ownL a xs _ fp h q =>
    obtain ⟨e0, q1⟩ := q.vals
    subst e0
    have am : a ∈ W := by rw [h2]; simp
    refine ⟨a, xs, h1, h, q1, fun ys es q' => ?_⟩
    have hh : hide (upd H a (.lst ys)) (W ++ L) = hide H (W ++ L) := hide_upd _ (by simp [am])
    have ne : ∀ b ∈ A ++ B, b ≠ a := fun b hb z => by
      subst z
      have nd := r.nd
      rw [h2] at nd
      have nd2 : (b :: (A ++ B)).Nodup := by
        refine List.Perm.nodup_iff ?_ |>.mp nd
        rw [List.append_assoc]
        exact List.perm_middle
      exact (List.nodup_cons.mp nd2).1 hb
    have na : ∀ b ∈ L, b ≠ a := fun b hb z => by subst z; exact r.dj b hb am
    refine ⟨⟨?_, r.nd, r.dj, fun b hb => by rw [upd_ne (na b hb)]; exact r.lk b hb⟩, ⟨by rw [hh]; exact Ex.refl _, fun b hb => .inl hb, fun b hb => upd_ne (na b hb)⟩⟩
    rw [hh]
    have z := h4 (upd H a (.lst ys)) (ownV es) [a] (.ownL upd_same (relSs_vals q')) fun b hb => upd_ne (ne b hb)
    rw [← h2] at z
    exact z
/-- frozen from here on -/
theorem Rl.freeze (r : Rl K L W ρ σ H) {i : Nat} {s : Slot} {d : D} (e : ρ[i]? = some s) (hs : s.fz = some d) : ∃ W', Stp L W H W' H ∧ Rl K L W' (ρ.set i (.val d)) σ H := by
  have n : s ≠ .unb := fun z => by subst z; cases hs
  obtain ⟨v, A, f, B, h1, h2, h3, h5, _⟩ := r.rel.upd e n
  have sub : ∀ a ∈ A ++ B, a ∈ W := fun a h => by rw [h2]; simp only [List.mem_append] at h ⊢; rcases h with h | h <;> simp [h]
  have nd : (A ++ B).Nodup := by
    have := r.nd
    rw [h2, List.append_assoc] at this
    obtain ⟨h1, h2, h3⟩ := List.nodup_append.mp this
    obtain ⟨_, h4, _⟩ := List.nodup_append.mp h2
    exact List.nodup_append.mpr ⟨h1, h4, fun a ha b hb => h3 a ha b (by simp [hb])⟩
  have ex : Ex (hide H (W ++ L)) (hide H ((A ++ B) ++ L)) := hide_mono (Ex.refl _) fun a h => by
    simp only [List.mem_append] at h ⊢
    rcases h with h | h
    · exact .inl (.inl (sub a (by simpa using h)))
    · exact .inl (.inr h)
  have fo : ∀ a ∈ f, a ∉ A ++ B := fun a ha hb => by
    have n1 := r.nd
    rw [h2] at n1
    obtain ⟨n2, _, n3⟩ := List.nodup_append.mp n1
    obtain ⟨_, _, n4⟩ := List.nodup_append.mp n2
    rcases List.mem_append.mp hb with hb | hb
    · exact n4 a hb a ha rfl
    · exact n3 a (by simp [ha]) a hb rfl
  have fw : ∀ a ∈ f, a ∈ W := fun a ha => by rw [h2]; simp [ha]
  have st : Stp L W H (A ++ B) H := ⟨ex, fun a h => .inl (sub a h), fun _ _ => rfl⟩
  have rv : Rep K (hide H ((A ++ B) ++ L)) v d := h3.fz ex (fun a ha => hide_out fun m => by
    rcases List.mem_append.mp m with m | m
    · exact fo a ha m
    · exact r.dj a m (fw a ha)) hs
  have r5 : Rl K L (A ++ B) (ρ.set i .unb) σ H := ⟨h5.mono ex fun _ _ => rfl, nd, fun a ha q => r.dj a ha (sub a q), r.lk⟩
  obtain ⟨W6, st6, r6⟩ := (r5.push rv).store i (by simp)
  rw [List.set_set, show σ.set i (some v) = σ from by
    apply List.ext_getElem?
    intro j
    by_cases e : i = j
    · subst e
      have : i < σ.length := (List.getElem?_eq_some_iff.mp h1).1
      rw [List.getElem?_set_self this, h1]
    · rw [List.getElem?_set_ne e]] at r6
  exact ⟨W6, st.trans st6, r6⟩
end
/-! ### statements and expressions over owned lists -/
@[simp] def frzS (i : Nat) (m : S) : S := fun ρ => match ρ[i]? with
  | some s => (match s.fz with
    | some d => m (ρ.set i (.val d))
    | none => .stuck)
  | none => .stuck
/-- with the list that the slot i owns, there before and behind m -/
def withL {α : Type} (i : Nat) (m : M D) (k : List D → D → M α) : M α := fun ρ => match getL ρ i with
  | none => .stuck
  | some _ => (m ρ).bd fun d ρ1 => match getL ρ1 i with
    | none => .stuck
    | some ds => k ds d ρ1
@[simp] def appM (i : Nat) (m : M D) : M D := withL i m fun ds d ρ => if ds.length < 1000000 then .ok .non (ρ.set i (ownV (ds ++ [d]))) else .stuck
@[simp] def ixO (i : Nat) (m : M D) : M D := withL i m fun ds d ρ => match d with
  | .int k => ofO (atI ds k) ρ
  | _ => .stuck
@[simp] def lenO (i : Nat) : M D := fun ρ => match getL ρ i with
  | none => .stuck
  | some ds => .ok (.int ds.length) ρ
@[simp] def setIxS (i : Nat) (mk me : M D) : S := fun ρ => Out.of ((me ρ).bd fun d ρ1 => (withL (α := Out) i mk (fun ds k ρ2 => match k with
  | .int k => (match ixN ds.length k with
    | some j => .ok (.nx (ρ2.set i (ownV (ds.set j d)))) ρ2
    | none => .stuck)
  | _ => .stuck) ρ1))
@[simp] def popM (i : Nat) : M D := fun ρ => match getL ρ i with
  | none => .stuck
  | some ds => (match ds[ds.length - 1]? with
    | some d => .ok d (ρ.set i (ownV ds.dropLast))
    | none => .stuck)
@[simp] def popAtM (i : Nat) (m : M D) : M D := withL i m fun ds d ρ => match d with
  | .int k => if 0 ≤ k ∧ k < ds.length ∧ k < 1000000000 then (match ds[k.toNat]? with
    | some d => .ok d (ρ.set i (ownV (ds.eraseIdx k.toNat)))
    | none => .stuck) else .stuck
  | _ => .stuck
theorem withL_bd {α β : Type} {i : Nat} {m : M D} {k : List D → D → M α} {f : α → Env → Res β} (ρ : Env) : (withL i m k ρ).bd f = withL i m (fun ds d ρ => (k ds d ρ).bd f) ρ := by
  unfold withL
  cases getL ρ i with
  | none => rfl
  | some _ =>
    simp only [Res.bd]
    cases m ρ with
    | ok d ρ1 => simp only [Res.bd]; cases getL ρ1 i <;> rfl
    | er e ρ1 => rfl
    | stuck => rfl
theorem withL_map {α β : Type} {i : Nat} {m : M D} {k : List D → D → M α} {f : α → β} (ρ : Env) : (withL i m k ρ).map f = withL i m (fun ds d ρ => (k ds d ρ).map f) ρ := by
  unfold withL
  cases getL ρ i with
  | none => rfl
  | some _ =>
    simp only [Res.bd]
    cases m ρ with
    | ok d ρ1 => simp only [Res.bd]; cases getL ρ1 i <;> rfl
    | er e ρ1 => rfl
    | stuck => rfl
section
variable {X : Cx} {Wx : WX} {J : List Nat}
theorem pst_frz {st : Stmt} {m : S} (i : Nat) (h : PSt X Wx J st m) : PSt X Wx J st (frzS i m) := by
  refine PS_imp h fun E σ H h => ?_
  obtain ⟨ρ, L, W, rl, p⟩ := h
  revert p
  show PostS X.K Wx J σ L W H E (frzS i m ρ) → _
  unfold frzS
  split
  · rename_i s e
    split
    · rename_i d hd
      intro p
      obtain ⟨W1, st1, rl1⟩ := rl.freeze e hd
      exact ⟨_, L, W1, rl1, PostS.step .refl st1 p⟩
    · exact fun p => p.elim
  · exact fun p => p.elim
theorem psl_frz {sts : List Stmt} {m : S} (i : Nat) (h : PSL X Wx J sts m) : PSL X Wx J sts (frzS i m) := by
  refine PSs_imp h fun E σ H h => ?_
  obtain ⟨ρ, L, W, rl, p⟩ := h
  revert p
  show PostS X.K Wx J σ L W H E (frzS i m ρ) → _
  unfold frzS
  split
  · rename_i s e
    split
    · rename_i d hd
      intro p
      obtain ⟨W1, st1, rl1⟩ := rl.freeze e hd
      exact ⟨_, L, W1, rl1, PostS.step .refl st1 p⟩
    · exact fun p => p.elim
  · exact fun p => p.elim
/-- the reading: a name that owns a list, then an expression, then an operation on both -/
theorem own_use {K : PySem.W.Frag} {β : Type} {T : Res β → Prop} {i : Nat} {m : M D} {k : List D → D → Env → Res β} {L W : List Addr} {ρ : Env} {σ : L2.St} {H : Hp} {R : V → V → Hp → Prop} (rl : Rl K L W ρ σ H) (p : T (withL i m k ρ))
    (hR : ∀ a xs x d ds ρ1 W1 H1, Stp L W H W1 H1 → Rl K L W1 ρ1 σ H1 → getL ρ1 i = some ds → σ[i]? = some (some (.ref a)) → H1 a = some (.lst xs) → Reps K (hide H1 (W1 ++ L)) xs ds → Rep K (hide H1 (W1 ++ L)) x d →
      (∀ ys es, Reps K (hide H1 (W1 ++ L)) ys es → Rl K L W1 (ρ1.set i (ownV es)) σ (upd H1 a (.lst ys)) ∧ Stp L W1 H1 W1 (upd H1 a (.lst ys))) → T (k ds d ρ1) → R (.ref a) x H1)
    (hs : T .stuck → False := by exact id) (he : ∀ e ρ', T (.er e ρ') → ErP K Wx σ L W H e ρ' := by exact fun _ _ h => h) :
    ∃ a xs, σ[i]? = some (some (.ref a)) ∧ H a = some (.lst xs) ∧ tE K Wx (vl m) σ H fun x H1 => R (.ref a) x H1 := by
  unfold withL at p
  cases e : getL ρ i with
  | none => rw [e] at p; exact (hs p).elim
  | some ds0 =>
    rw [e] at p
    obtain ⟨a, xs, h1, h2, h3, h4⟩ := rl.own e
    refine ⟨a, xs, h1, h2, bd_D (T := T) rl p (fun x d ρ1 W1 H1 st1 rl1 q1 p => ?_) hs he⟩
    cases e1 : getL ρ1 i with
    | none => rw [e1] at p; exact (hs p).elim
    | some ds =>
      rw [e1] at p
      obtain ⟨a', ys, g1, g2, g3, g4⟩ := rl1.own e1
      cases h1.symm.trans g1
      exact hR a ys x d ds ρ1 W1 H1 st1 rl1 e1 g1 g2 g3 q1 g4 p
/-- xs.append(e) -/
theorem px_app {i : Nat} {x : Str} {e : Expr} {m : M D} {p1 apos cpos : Pos} (ha : PD X Wx e m) (hN : X.N[i]? = some x := by rfl) (hv : Vis X.env.scope x := by first | exact Or.inl rfl | exact Or.inr (Or.inl rfl) | exact Or.inr (Or.inr rfl)) (hd : (x == ("__debug__" : Str)) = false := by decide)
    (hcd : (x == ("__classdict__" : Str)) = false := by decide) (hbase : attributeBase (.Name x p1) "append" X.env (eval (.Name x p1) X.env) = eval (.Name x p1) X.env := by rfl) (hfew : ((backTo cpos (starEach [e] X.env)).all (fun x => !x.1) && (backToKw cpos (keywordEach [] X.env)).all (fun x => x.1.isSome)
      && decide (([e] : List Expr).length + ([] : List Keyword).length + (if ([] : List Keyword).isEmpty then 0 else 1) < 30)) = true := by rfl)
    (hline : (apos.endLine == cpos.line) = true := by rfl) (hs : starEach [e] X.env = (false, eval e X.env) :: starEach [] X.env := by rfl) (hplain : (backTo cpos (starEach [] X.env)).any (·.1) = false := by rfl) :
    PD X Wx (.Call (.Attribute (.Name x p1) "append" apos) [e] [] cpos) (appM i m) := by
  refine PE_imp (pe_bm PySem.F.plainAttrs_list PySem.F.slot_list_append PySem.F.type_list_append mt_append (pe_var (i := i) hN hv hd hcd) (pa_cons ha pa_nil hs) hbase hfew hline hs hplain) fun σ H Q h => ?_
  obtain ⟨ρ, L, W, rl, p⟩ := h
  simp only [vl, appM, withL_map] at p
  obtain ⟨a, xs, h1, h2, h3⟩ := own_use (T := Post X.K Wx σ L W H Q) (R := fun o x H1 => rAppend o [x] H1 Q) rl p fun a xs x d ds ρ1 W1 H1 st1 rl1 e1 g1 g2 g3 q1 g4 p => by
    by_cases c : ds.length < 1000000
    · rw [if_pos c] at p
      have z := g4 (xs ++ [x]) (ds ++ [d]) (g3.append (.cons q1 .nil))
      refine ⟨a, xs, x, rfl, rfl, g2, ?_, Post.here (p.step (st1.trans z.2)) z.1 (Ex.refl _) .non⟩
      rw [g3.length, sizeLine_eq]; omega
    · rw [if_neg c] at p
      exact p.elim
  exact ⟨_, h1, .inl ⟨rfl, _, SqL.of h2⟩, h3⟩
/-- xs[e] -/
theorem px_ixO {i : Nat} {x : Str} {e : Expr} {m : M D} {p1 pos : Pos} (ha : PD X Wx e m) (hN : X.N[i]? = some x := by rfl) (hv : Vis X.env.scope x := by first | exact Or.inl rfl | exact Or.inr (Or.inl rfl) | exact Or.inr (Or.inr rfl)) (hd : (x == ("__debug__" : Str)) = false := by decide)
    (hcd : (x == ("__classdict__" : Str)) = false := by decide) (hs : PlainIx e := by exact fun _ _ => rfl) : PD X Wx (.Subscript (.Name x p1) e pos) (ixO i m) := by
  refine PE_imp (pe_ix ix_list (pe_var (i := i) hN hv hd hcd) ha hs) fun σ H Q h => ?_
  obtain ⟨ρ, L, W, rl, p⟩ := h
  simp only [vl, ixO, withL_map] at p
  obtain ⟨a, xs, h1, h2, h3⟩ := own_use (T := Post X.K Wx σ L W H Q) (R := fun o x H1 => rIxL X.K o x H1 Q) rl p fun a xs x d ds ρ1 W1 H1 st1 rl1 e1 g1 g2 g3 q1 g4 p => by
    cases d with
    | int k =>
      obtain ⟨d', hd', p⟩ := Post.ofO p
      obtain ⟨y, hy, qy⟩ := g3.atI hd'
      exact ⟨a, xs, k, y, rfl, q1.int_inv, SqL.of g2, hy, (p.step st1).here rl1 (Ex.refl _) qy⟩
    | _ => exact p.elim
  exact ⟨_, h1, h3⟩
/-- len(xs) -/
theorem px_lenO {i : Nat} {x y : Str} {p p1 pos : Pos} (hm : X.mg y = none) (hN : X.N[i]? = some x := by rfl) (hv : Vis X.env.scope x := by first | exact Or.inl rfl | exact Or.inr (Or.inl rfl) | exact Or.inr (Or.inr rfl)) (hd : (x == ("__debug__" : Str)) = false := by decide)
    (hcd : (x == ("__classdict__" : Str)) = false := by decide) (hv' : bootBuiltins y = some (.builtin "len") := by decide +kernel) (hg : Gl X y := by rfl) (hn : y ≠ "__name__" := by decide) (hdb : (y == ("__debug__" : Str)) = false := by decide)
    (he : starEach [.Name x p1] X.env = (false, eval (.Name x p1) X.env) :: starEach [] X.env := by rfl) (hpl : (backTo pos (starEach [] X.env)).any (·.1) = false := by rfl) : PD X Wx (.Call (.Name y p) [.Name x p1] [] pos) (lenO i) := by
  refine PE_imp (pe_callB call_len hg hm hv' (pa_cons (pe_var (i := i) hN hv hd hcd) pa_nil he) hn hdb he hpl) fun σ H Q h => ?_
  obtain ⟨ρ, L, W, rl, p⟩ := h
  simp only [vl, lenO] at p
  cases e : getL ρ i with
  | none => rw [e] at p; exact p.elim
  | some ds =>
    rw [e] at p
    obtain ⟨a, xs, h1, h2, h3, _⟩ := rl.own e
    have p : Post X.K Wx σ L W H Q (.ok (.val (.int ds.length)) ρ) := p
    exact ⟨_, h1, _, xs.length, rfl, .inl ⟨xs, SqL.of h2, rfl⟩, p.here rl (Ex.refl _) (by rw [h3.length]; exact .int _)⟩
/-- xs[k] = e -/
theorem pst_setIx {i : Nat} {x : Str} {k e : Expr} {mk me : M D} {p1 ps pos : Pos} (he : PD X Wx e me) (hk : PD X Wx k mk) (hN : X.N[i]? = some x := by rfl) (hv : Vis X.env.scope x := by first | exact Or.inl rfl | exact Or.inr (Or.inl rfl) | exact Or.inr (Or.inr rfl)) (hd : (x == ("__debug__" : Str)) = false := by decide)
    (hcd : (x == ("__classdict__" : Str)) = false := by decide) (ha : ∀ v, assign (.Subscript (.Name x p1) k ps) X.env v = (do
      let ov ← holding [v] (eval (.Name x p1) X.env)
      let iv ← holding [v, ov] (eval k X.env)
      standAt ps
      holding [v, ov, iv] (setItem ov iv v)
      release [v, ov, iv] []) := by intro _; rfl) (hs : swapsWithSole [.Subscript (.Name x p1) k ps] e pos.line X.env = pure false := by rfl) (hw : swappedStores [.Subscript (.Name x p1) k ps] e X.env = pure none := by rfl)
    (h1 : (assignEach [.Subscript (.Name x p1) k ps] X.env).map (·.2) = [assign (.Subscript (.Name x p1) k ps) X.env] := by rfl) : PSt X Wx J (.Assign [.Subscript (.Name x p1) k ps] e pos) (setIxS i mk me) := by
  refine PS_imp (ps_asg he (pg_sub (pe_var (i := i) hN hv hd hcd) hk set_list ha) hs hw h1) fun E σ H h => ?_
  obtain ⟨ρ, L, W, rl, p⟩ := h
  refine bd_D (T := fun r => PostS X.K Wx J σ L W H E (Out.of r)) rl p (fun v d ρ1 W1 H1 st1 rl1 q1 p => ?_) id (fun e ρ' h c dd W' H' st r er => h c dd σ W' H' .refl st r er)
  obtain ⟨a, xs, h1, h2, h3⟩ := own_use (T := fun r => PostS X.K Wx J σ L W1 H1 E (Out.of r)) (R := fun o kx H2 => rSetL o kx v H2 fun H3 => E.nx σ H3) rl1 (PostS.step .refl st1 p) (fun a xs x kd ds ρ2 W2 H2 st2 rl2 e2 g1 g2 g3 q2 g4 p => by
    cases kd with
    | int kk =>
      cases ej : ixN ds.length kk with
      | none => simp only [ej] at p; exact p.elim
      | some j =>
        simp only [ej] at p
        have z := g4 (xs.set j v) (ds.set j d) (g3.set j (st2.rep q1))
        exact ⟨a, xs, kk, j, rfl, q2.int_inv, g2, by rw [g3.length]; exact ej, p σ W2 _ .refl (st2.trans z.2) z.1⟩
    | _ => exact p.elim) id (fun e ρ' h c dd W' H' st r er => h c dd σ W' H' .refl st r er)
  exact ⟨_, h1, h3⟩
end
end P
/-! The P-layer, 11: defs, how they are called. -/
namespace P
open PySem PySem.Spec PyProof.Rows L2

/-! ### a def without owned parameters -/
@[simp] def startE (N : Nat) (ds : List D) : Env := ds.map .val ++ List.replicate (N - ds.length) .unb
/-- what the body's end is worth -/
@[simp] def Out.fr : Out → FR
  | .nx _ => .ok (.val .non)
  | .rt s _ => .ok s
  | .er e _ => .er e
  | _ => .stuck
def runP (N n : Nat) (m : S) (ds : List D) : FR := if ds.length = n then (m (startE N ds)).fr else .stuck
section
variable {K : PySem.W.Frag} {L W : List Addr} {ρ : Env} {σ : L2.St} {H H' : Hp}
theorem relE_start {G : Hp} {N : Nat} : ∀ {vs : List V} {ds : List D}, Reps K G vs ds → RelE K G H [] (vs.map some ++ List.replicate N none) (ds.map .val ++ List.replicate N .unb)
  | _, _, .nil => by
    induction N with
    | zero => exact .nil
    | succ n ih => exact .unb ih
  | _, _, .cons h r => .cons (f := []) (.val h) (relE_start r)
/-- only the top is left -/
theorem Rl.top {s : Slot} {v : V} (r : Rl K L W (s :: ρ) (some v :: σ) H) : ∃ W', Stp L W H W' H ∧ Rl K L W' [s] [some v] H := by
  have r0 := r
  obtain ⟨rel, nd, dj, lk⟩ := r
  cases rel with
  | unb q => have z := r0.sub (W' := []) (σ' := [some v]) (RelE.unb .nil) .nil (fun a ha => by simp at ha); exact ⟨_, z.2, z.1⟩
  | @cons f g _ _ _ _ q r => have z := r0.sub (W' := f) (by simpa using RelE.cons q (.nil (G := hide H (f ++ g ++ L)) (H := H))) (List.nodup_append.mp nd).1 (fun a ha => by simp [ha]); exact ⟨_, z.2, z.1⟩
theorem Rl.none (r : Rl K L W ρ σ H) : Stp L W H [] H ∧ Rl K L [] [] [] H := by
  have z := r.sub (W' := []) RelE.nil .nil (fun a ha => by simp at ha)
  exact ⟨z.2, z.1⟩
end
section
variable {P : Program} {w : World} {K : PySem.W.Frag} {mg : Str → Option Value} {base : Heap} {x qual : Str} {params : Arguments} {body : List Stmt} {scope : Scope} {dvs : List V} {kws : List (Str × V)} {f : Addr} {fd : FuncData} {N ps : List Str} {k : Nat}
theorem start_eq {N : List Str} {vs : List V} {ds : List D} (h : vs.length = ds.length) : L2.start N vs = vs.map some ++ List.replicate (N.length - ds.length) Option.none := by unfold L2.start; rw [h]
theorem fn_pure {m : S} (F : FunD K x qual params body scope dvs kws f fd) (Sc : FnScope N ps scope)
    (hb : ∀ (cdv : Value) (A : Around) (outer : List PySem.Env) (s : Shared) (H : Hp) (E : XK), Rm k (A.deeper (envOfC qual scope s.heap.objs.size f cdv)) →
      Takes (cxOf (L2.CX P w) P w K mg base N qual scope f cdv A outer s H E) (fun c d _ H' => E c d H') →
      PassesOwn (model P w) (cxOf (L2.CX P w) P w K mg base N qual scope f cdv A outer s H E).A (cxOf (L2.CX P w) P w K mg base N qual scope f cdv A outer s H E).env (cxOf (L2.CX P w) P w K mg base N qual scope f cdv A outer s H E).xe →
      PSL (cxOf (L2.CX P w) P w K mg base N qual scope f cdv A outer s H E) (fun c d _ H' => E c d H') [] body m) :
    FnG P w K mg base (k + 1) f fd ps (spP K (runP N.length ps.length m)) := by
  refine FnG.of_body F Sc (fun vs H Q E h => ?_) fun cdv A outer s H vs Q E hr h => ?_
  · obtain ⟨L, ds, al, q, p⟩ := h
    unfold runP at p
    by_cases c : ds.length = ps.length
    · exact q.length.trans c
    · rw [if_neg c] at p; exact p.elim
  · obtain ⟨L, ds, al, q, p⟩ := h
    refine ⟨_, hb cdv A outer s H E hr (takes_of rfl rfl rfl rfl) (passes_of rfl), ?_⟩
    unfold runP at p
    by_cases c : ds.length = ps.length
    · rw [if_pos c] at p
      have rl : Rl K L [] (startE N.length ds) (L2.start N vs) H := by
        rw [start_eq q.length]
        exact ⟨relE_start q, .nil, fun _ _ z => by simp at z, al⟩
      refine ⟨startE N.length ds, L, [], rl, ?_⟩
      revert p
      cases m (startE N.length ds) with
      | nx ρ' =>
        intro p σ' W' H' _ st rl
        have z := rl.none
        exact p .non [] H' (st.trans z.1) (z.2.push .non)
      | bk ρ' => exact fun p => p.elim
      | ct ρ' => exact fun p => p.elim
      | rt s ρ' =>
        intro p v σ' W' H' _ st rl
        obtain ⟨W2, st2, rl2⟩ := rl.top
        exact p v W2 H' (st.trans st2) rl2
      | er e ρ' => exact fun p c dd σ' W' H' _ st rl er => p c dd W' H' st (fun a ha => rl.alloc a (by simp [ha])) er
      | stuck => exact fun p => p.elim
    · rw [if_neg c] at p; exact p.elim

/-! ### how arguments come to parameters -/
/-- some of the values written, the keywords' values, the defaults, by their places -/
def pick {α : Type} (ix : List Nat) (us : List α) : List α := ix.filterMap fun i => us[i]?
theorem pick_reps {K : PySem.W.Frag} {G : Hp} : ∀ (ix : List Nat) {vs : List V} {ds : List D}, Reps K G vs ds → Reps K G (pick ix vs) (pick ix ds)
  | [], _, _, _ => .nil
  | i :: ix, vs, ds, h => by
    unfold pick
    rw [List.filterMap_cons, List.filterMap_cons]
    cases e : ds[i]? with
    | none =>
      have : vs[i]? = Option.none := List.getElem?_eq_none_iff.mpr (by rw [h.length]; exact List.getElem?_eq_none_iff.mp e)
      rw [this]; exact pick_reps ix h
    | some d =>
      obtain ⟨x, hx, q⟩ := h.get e
      rw [hx]; exact .cons q (pick_reps ix h)
theorem pick_vals : ∀ (ix : List Nat) {vs : List V} {us : List Value}, Vals vs us → Vals (pick ix vs) (pick ix us)
  | [], _, _, _ => .nil
  | i :: ix, vs, us, h => by
    unfold pick
    rw [List.filterMap_cons, List.filterMap_cons]
    cases e : vs[i]? with
    | none =>
      have := Vals.none_of h e
      rw [this]; exact pick_vals ix h
    | some d =>
      obtain ⟨x, hx, q⟩ := h.get e
      rw [hx]; exact .cons q (pick_vals ix h)
/-- every parameter is written in its place -/
theorem kbd_pos (F : FunD K x qual params body scope [] kws f fd)
    (h : ∀ (kV doc pm : Value) (an : Option Addr) (cdv ct : Value) (us : List Value), us.length = ps.length → bindArgs (PySem.W.fnOf x qual params body scope .none kV doc pm an cdv ct) ⟨us, []⟩ = pure (ps.zip us)) : KBd K fd ps ps.length [] (fun ds _ => ds) := by
  obtain ⟨oc, od, dV, kV, doc, pm, an, cdv, ct, osl, rfl, lk, hcd, hD, hK⟩ := F.ex
  rcases hD with ⟨_, rfl⟩ | ⟨e, _⟩
  · refine ⟨fun us _ => us, fun vs _ => vs, ⟨fun s us ws _ l1 l2 => ?_, fun r _ => r⟩, fun G vs zs ds es r _ => r⟩
    cases ws with
    | nil => exact .of_eq (h kV doc pm an cdv ct us l1)
    | cons _ _ => cases l2
  · exact absurd rfl e
/-- .. n of them by place, the others by the names ks; no defaults are needed -/
theorem kbd_kw (F : FunD K x qual params body scope [] kws f fd) (n : Nat) (ks : List Str) (ix : List Nat)
    (h : ∀ (kV doc pm : Value) (an : Option Addr) (cdv ct : Value) (us ws : List Value), us.length = n → ws.length = ks.length → bindArgs (PySem.W.fnOf x qual params body scope .none kV doc pm an cdv ct) ⟨us, ks.zip ws⟩ = pure (ps.zip (pick ix (us ++ ws)))) : KBd K fd ps n ks (fun ds es => pick ix (ds ++ es)) := by
  obtain ⟨oc, od, dV, kV, doc, pm, an, cdv, ct, osl, rfl, lk, hcd, hD, hK⟩ := F.ex
  rcases hD with ⟨_, rfl⟩ | ⟨e, _⟩
  · exact ⟨fun us ws => pick ix (us ++ ws), fun vs zs => pick ix (vs ++ zs), ⟨fun s us ws _ l1 l2 => .of_eq (h kV doc pm an cdv ct us ws l1 l2), fun r q => pick_vals ix (r.append q)⟩, fun G vs zs ds es r q => pick_reps ix (r.append q)⟩
  · exact absurd rfl e
/-- a def with keyword-only parameters that have defaults: ms, those that are not written, bear dds -/
theorem kbd_ko (F : FunD K x qual params body scope [] kws f fd) (n : Nat) (ks : List Str) (ms : List (Str × V)) (dds : List D) (ix : List Nat) (hk : kws ≠ []) (hms : ∀ q ∈ ms, q ∈ kws) (hd : ∀ G, Reps K G (ms.map (·.2)) dds)
    (h : ∀ (D : Addr) (doc pm : Value) (an : Option Addr) (cdv ct : Value) (us mv ws : List Value), us.length = n → mv.length = ms.length → ws.length = ks.length →
      KwChain D ((ms.map (·.1)).zip mv) (bindArgs (PySem.W.fnOf x qual params body scope .none (.ref D) doc pm an cdv ct) ⟨us, ks.zip ws⟩) (ps.zip (pick ix (us ++ ws ++ mv)))) : KBd K fd ps n ks (fun ds es => pick ix (ds ++ es ++ dds)) := by
  obtain ⟨mv, hb⟩ := FunD.kbinds0 F n ks ms (fun us mv ws => pick ix (us ++ ws ++ mv)) hk hms (fun r1 r2 r3 => pick_vals ix ((r1.append r3).append r2)) h
  exact ⟨_, _, hb, fun G vs zs ds es r q => pick_reps ix ((r.append q).append (hd G))⟩
/-- a def whose last positional parameters have the defaults dvs: dds -/
theorem kbd_df (F : FunD K x qual params body scope dvs kws f fd) (n : Nat) (ks : List Str) (dds : List D) (ix : List Nat) (hd0 : dvs ≠ []) (hd : ∀ G, Reps K G dvs dds)
    (h : ∀ (T : Addr) (kV doc pm : Value) (an : Option Addr) (cdv ct : Value) (us its ws : List Value), us.length = n → its.length = dvs.length → ws.length = ks.length →
      ∃ k, bindArgs (PySem.W.fnOf x qual params body scope (.ref T) kV doc pm an cdv ct) ⟨us, ks.zip ws⟩ = seqItems? (.ref T) >>= k ∧ k (some its.toArray) = pure (ps.zip (pick ix (us ++ ws ++ its)))) : KBd K fd ps n ks (fun ds es => pick ix (ds ++ es ++ dds)) := by
  obtain ⟨its, hb⟩ := FunD.kbindsD F n ks (fun us its ws => pick ix (us ++ ws ++ its)) hd0 (fun r1 r2 r3 => pick_vals ix ((r1.append r3).append r2)) h
  exact ⟨_, _, hb, fun G vs zs ds es r q => pick_reps ix ((r.append q).append (hd G))⟩
end

/-! ### raise X('..') -/
/-- an own exception class -/
structure ExcF (K : PySem.W.Frag) (c : Str) : Prop where
  x : PySem.W.excIn K (He.ga K c) [.type "ValueError", .type "Exception", .type "BaseException", .type "object"] "ValueError.__new__" = true
  k : PySem.W.keepIn K (.ref (He.ga K c)) = true
  b : PySem.W.subIn K (.ref (He.ga K c)) (.type "BaseException") = some true
  t : PySem.W.typeIn K (.ref (He.ga K c)) = some (.type "type")
@[simp] def raiseS (c : Str) : S := fun ρ => .er ⟨c, [], []⟩ ρ
theorem pst_raise {X : Cx} {Wx : WX} {J : List Nat} {c m : Str} {j : Nat} {p p2 pos pos' : Pos} (F : ExcF X.K c) (gC : X.mg c = some (.ref (He.ga X.K c))) (tk : Takes X Wx) (hc : X.calm = true) (hg : Gl X c := by rfl) (hdb : (c == ("__debug__" : Str)) = false := by decide) :
    PSt X Wx J (.Raise (some (.Call (.Name c p) [.Constant (.str m) j p2] [] pos)) .none pos') (raiseS c) := by
  refine PS_imp (ps_raise hc tk (pmk_own PySem.F.excBase_ValueError F.x gC F.k (raises_own F.b F.t) hg hdb)) fun E σ H h => ?_
  obtain ⟨ρ, L, W, rl, p⟩ := h
  exact p _ _ σ W H .refl .refl rl ⟨rfl, .inl ⟨rfl, rfl⟩⟩
end P
/-! The P-layer, 12: defs that change what they are handed. -/
namespace P
open PySem PySem.Spec PyProof.Rows L2

/-! ### what is handed over -/
inductive FM where
  | ok (s : Slot) (ms : List Slot)
  | er (e : Err) (ms : List Slot)
  | stuck
@[simp] def sel {α : Type} : List Bool → List α → List α
  | true :: m, x :: xs => x :: sel m xs
  | false :: m, _ :: xs => sel m xs
  | _, _ => []
def FMP (K : PySem.W.Frag) (L W : List Addr) (H : Hp) (mvs : List V) (Q : VK) (E : XK) : FM → Prop
  | .ok s ms => ∀ v W' H', Stp L W H W' H' → Rl K L W' (ms ++ [s]) (mvs.map some ++ [some v]) H' → Q v H'
  | .er e ms => ∀ c dd W' H', Stp L W H W' H' → Rl K L W' ms (mvs.map some) H' → ErrRep K (hide H' (W' ++ L)) c dd e → E c dd H'
  | .stuck => False
/-- the promise of a def that computes F and changes the parameters of mm -/
def spM (K : PySem.W.Frag) (mm : List Bool) (F : List Slot → FM) : Sp := fun vs H Q E => ∃ L W ss, vs.length = mm.length ∧ Rl K L W ss (vs.map some) H ∧ FMP K L W H (sel mm vs) Q E (F ss)
section
variable {K : PySem.W.Frag} {G : Hp} {L W : List Addr} {ρ : Env} {σ : L2.St} {H H' : Hp}
theorem RelE.sel : ∀ (mm : List Bool) {W : List Addr} {σ : L2.St} {ρ : Env}, RelE K G H W σ ρ → ∃ W', W'.Sublist W ∧ RelE K G H W' (P.sel mm σ) (P.sel mm ρ)
  | [], W, σ, ρ, h => ⟨[], List.nil_sublist _, by cases h <;> exact .nil⟩
  | b :: mm, _, _, _, .nil => ⟨[], List.nil_sublist _, by cases b <;> exact .nil⟩
  | true :: mm, _, _, _, .unb r => by
    obtain ⟨W', s, h⟩ := r.sel mm
    exact ⟨W', s, .unb h⟩
  | false :: mm, _, _, _, .unb r => by
    obtain ⟨W', s, h⟩ := r.sel mm
    exact ⟨W', s, h⟩
  | true :: mm, _, _, _, .cons (f := f) q r => by
    obtain ⟨W', s, h⟩ := r.sel mm
    exact ⟨f ++ W', s.append_left f, .cons q h⟩
  | false :: mm, _, _, _, .cons (f := f) q r => by
    obtain ⟨W', s, h⟩ := r.sel mm
    exact ⟨W', s.trans (List.sublist_append_right f _), h⟩
theorem Rl.sel (r : Rl K L W ρ σ H) (mm : List Bool) : ∃ W', Stp L W H W' H ∧ Rl K L W' (P.sel mm ρ) (P.sel mm σ) H := by
  obtain ⟨W', s, h⟩ := r.rel.sel mm
  have z := r.sub h (r.nd.sublist s) (fun a ha => s.subset ha)
  exact ⟨W', z.2, z.1⟩
/-- the top goes to the bottom -/
theorem Rl.rot {s : Slot} {v : V} (r : Rl K L W (s :: ρ) (some v :: σ) H) : ∃ W', Stp L W H W' H ∧ Rl K L W' (ρ ++ [s]) (σ ++ [some v]) H := by
  have app : ∀ {W1 W2 : List Addr} {σ1 σ2 : L2.St} {ρ1 ρ2 : Env} {G : Hp}, RelE K G H W1 σ1 ρ1 → RelE K G H W2 σ2 ρ2 → RelE K G H (W1 ++ W2) (σ1 ++ σ2) (ρ1 ++ ρ2) := by
    intro W1 W2 σ1 σ2 ρ1 ρ2 G h1 h2
    induction h1 with
    | nil => exact h2
    | unb _ ih => exact .unb ih
    | cons q _ ih => rw [List.append_assoc]; exact .cons q ih
  have r0 := r
  obtain ⟨rel, nd, dj, lk⟩ := r
  cases rel with
  | unb q =>
    have z := r0.sub (W' := W ++ []) (app q (.unb (o := some v) .nil)) (by simpa using nd) (fun a ha => by simpa using ha)
    exact ⟨_, z.2, z.1⟩
  | @cons f g _ _ _ _ q r =>
    have z := r0.sub (W' := g ++ (f ++ [])) (app r (.cons q .nil)) (by
      rw [List.append_nil]
      exact (List.perm_append_comm (l₁ := g) (l₂ := f)).nodup_iff.mpr nd) (fun a ha => by
        simp only [List.append_nil, List.mem_append] at ha ⊢
        exact ha.symm)
    exact ⟨_, z.2, z.1⟩
theorem RelE.app : ∀ {W1 W2 : List Addr} {σ1 σ2 : L2.St} {ρ1 ρ2 : Env}, RelE K G H W1 σ1 ρ1 → RelE K G H W2 σ2 ρ2 → RelE K G H (W1 ++ W2) (σ1 ++ σ2) (ρ1 ++ ρ2)
  | _, _, _, _, _, _, .nil, h2 => h2
  | _, _, _, _, _, _, .unb r, h2 => .unb (r.app h2)
  | _, _, _, _, _, _, .cons q r, h2 => by rw [List.append_assoc]; exact .cons q (r.app h2)
theorem RelE.split : ∀ {ρ1 ρ2 : Env} {σ1 σ2 : L2.St} {W : List Addr}, RelE K G H W (σ1 ++ σ2) (ρ1 ++ ρ2) → σ1.length = ρ1.length → ∃ W1 W2, W = W1 ++ W2 ∧ RelE K G H W1 σ1 ρ1 ∧ RelE K G H W2 σ2 ρ2
  | [], ρ2, [], σ2, W, h, _ => ⟨[], W, rfl, .nil, h⟩
  | [], _, _ :: _, _, _, _, e => by cases e
  | _ :: _, _, [], _, _, _, e => by cases e
  | s :: ρ1, ρ2, o :: σ1, σ2, W, h, e => by
    have h : RelE K G H W (o :: (σ1 ++ σ2)) (s :: (ρ1 ++ ρ2)) := h
    cases h with
    | unb r =>
      obtain ⟨W1, W2, e1, h1, h2⟩ := r.split (by simpa using e)
      exact ⟨W1, W2, e1, .unb h1, h2⟩
    | @cons f g _ _ _ _ q r =>
      obtain ⟨W1, W2, e1, h1, h2⟩ := r.split (by simpa using e)
      exact ⟨f ++ W1, W2, by rw [e1, List.append_assoc], .cons q h1, h2⟩
end
/-- the kept slots of J hold what mm selects -/
theorem sel_ag {σ0 σ : L2.St} : ∀ (mm : List Bool) (k : Nat), (∀ j, mm[j]? = some true → σ[k + j]? = σ0[k + j]?) → σ.length = σ0.length → sel mm (σ.drop k) = sel mm (σ0.drop k)
  | [], k, _, _ => by simp
  | b :: mm, k, h, hl => by
    have ih := sel_ag (σ0 := σ0) (σ := σ) mm (k + 1) (fun j hj => by
      have := h (j + 1) (by simpa using hj)
      rwa [show k + (j + 1) = k + 1 + j by omega] at this) hl
    by_cases hk : k < σ.length
    · have h0 : k < σ0.length := by omega
      rw [List.drop_eq_getElem_cons hk, List.drop_eq_getElem_cons h0]
      cases b with
      | false => exact ih
      | true =>
        have := h 0 rfl
        rw [Nat.add_zero, List.getElem?_eq_getElem hk, List.getElem?_eq_getElem h0] at this
        simp only [sel]
        rw [Option.some.inj this, ih]
    · rw [List.drop_eq_nil_of_le (by omega), List.drop_eq_nil_of_le (by omega)]
theorem sel_map {α β : Type} (f : α → β) : ∀ (mm : List Bool) (xs : List α), sel mm (xs.map f) = (sel mm xs).map f
  | [], xs => by simp
  | b :: mm, [] => by cases b <;> rfl
  | true :: mm, x :: xs => by simp [sel_map f mm xs]
  | false :: mm, x :: xs => by simp [sel_map f mm xs]
theorem sel_append {α : Type} : ∀ (mm : List Bool) (xs ys : List α), mm.length = xs.length → sel mm (xs ++ ys) = sel mm xs
  | [], [], ys, _ => by simp
  | [], _ :: _, _, h => by cases h
  | _ :: _, [], _, h => by cases h
  | true :: mm, x :: xs, ys, h => by simp [sel_append mm xs ys (by simpa using h)]
  | false :: mm, x :: xs, ys, h => by simp [sel_append mm xs ys (by simpa using h)]
def Out.fm (mm : List Bool) : Out → FM
  | .nx ρ => .ok (.val .non) (sel mm ρ)
  | .rt s ρ => .ok s (sel mm ρ)
  | .er e ρ => .er e (sel mm ρ)
  | _ => .stuck
@[simp] def startM (N : Nat) (ss : List Slot) : Env := ss ++ List.replicate (N - ss.length) .unb
def runM (N : Nat) (mm : List Bool) (m : S) (ss : List Slot) : FM := if ss.length = mm.length then (m (startM N ss)).fm mm else .stuck
section
variable {P : Program} {w : World} {K : PySem.W.Frag} {mg : Str → Option Value} {base : Heap} {x qual : Str} {params : Arguments} {body : List Stmt} {scope : Scope} {dvs : List V} {kws : List (Str × V)} {f : Addr} {fd : FuncData} {N ps : List Str} {k : Nat}
theorem fn_mut {m : S} {mm : List Bool} {J : List Nat} (F : FunD K x qual params body scope dvs kws f fd) (Sc : FnScope N ps scope) (hmm : mm.length = ps.length) (hJ : ∀ j, mm[j]? = some true → j ∈ J)
    (hb : ∀ (cdv : Value) (A : Around) (outer : List PySem.Env) (s : Shared) (H : Hp) (E : XK) (Wx : WX), Rm k (A.deeper (envOfC qual scope s.heap.objs.size f cdv)) →
      Takes (cxOf (L2.CX P w) P w K mg base N qual scope f cdv A outer s H E) Wx →
      PassesOwn (model P w) (cxOf (L2.CX P w) P w K mg base N qual scope f cdv A outer s H E).A (cxOf (L2.CX P w) P w K mg base N qual scope f cdv A outer s H E).env (cxOf (L2.CX P w) P w K mg base N qual scope f cdv A outer s H E).xe →
      PSL (cxOf (L2.CX P w) P w K mg base N qual scope f cdv A outer s H E) Wx J body m) :
    FnG P w K mg base (k + 1) f fd ps (spM K mm (runM N.length mm m)) := by
  refine FnG.of_body F Sc (fun vs H Q E ⟨L, W, ss, h, _⟩ => h.trans hmm) fun cdv A outer s H vs Q E hr h => ?_
  obtain ⟨L, W, ss, hl, rl0, p⟩ := h
  refine ⟨_, hb cdv A outer s H E (fun c d _ H' => E c d H') hr (takes_of rfl rfl rfl rfl) (passes_of rfl), ?_⟩
  unfold runM at p
  have hvs : vs.length = ss.length := by simpa using rl0.rel.length
  rw [if_pos (by rw [← hvs]; exact hl)] at p
  have hs0 : L2.start N vs = vs.map some ++ List.replicate (N.length - ss.length) Option.none := by unfold L2.start; rw [hvs]
  have rl : Rl K L W (startM N.length ss) (L2.start N vs) H := by
    rw [hs0]
    have e : ∀ n, RelE K (hide H (W ++ L)) H [] (List.replicate n Option.none) (List.replicate n Slot.unb) := fun n => by
      induction n with
      | zero => exact .nil
      | succ n ih => exact .unb ih
    refine ⟨?_, rl0.nd, rl0.dj, rl0.lk⟩
    have := rl0.rel.app (e (N.length - ss.length))
    rwa [List.append_nil] at this
  refine ⟨startM N.length ss, L, W, rl, ?_⟩
  -- what the kept slots hold at the end
  have fin : ∀ {σ' : L2.St}, Ag J (L2.start N vs) σ' → sel mm σ' = (sel mm vs).map some := fun {σ'} ag => by
    have z := sel_ag (σ0 := L2.start N vs) (σ := σ') mm 0 (fun j hj => by rw [Nat.zero_add]; exact ag.2 j (hJ j hj)) ag.1
    rw [List.drop_zero, List.drop_zero] at z
    rw [z, hs0, sel_append _ _ _ (by rw [List.length_map]; omega), sel_map]
  revert p
  cases m (startM N.length ss) with
  | nx ρ' =>
    intro p σ' W' H' ag st rl'
    obtain ⟨W2, st2, rl2⟩ := rl'.sel mm
    rw [fin ag] at rl2
    obtain ⟨W3, st3, rl3⟩ := (rl2.push (d := .non) .non).rot
    exact p .non W3 H' ((st.trans st2).trans st3) rl3
  | bk ρ' => exact fun p => p.elim
  | ct ρ' => exact fun p => p.elim
  | rt s ρ' =>
    intro p v σ' W' H' ag st rl'
    obtain ⟨W2, st2, rl2⟩ := rl'.sel (true :: mm)
    have rl2 : Rl K L W2 (s :: sel mm ρ') (some v :: sel mm σ') H' := rl2
    rw [fin ag] at rl2
    obtain ⟨W3, st3, rl3⟩ := rl2.rot
    exact p v W3 H' ((st.trans st2).trans st3) rl3
  | er e ρ' =>
    intro p c dd σ' W' H' ag st rl' er
    obtain ⟨W2, st2, rl2⟩ := rl'.sel mm
    rw [fin ag] at rl2
    exact p c dd W2 H' (st.trans st2) rl2 (er.mono st2.ex)
  | stuck => exact fun p => p.elim
end
/-! ### the call -/
@[simp] def Slot.isUnb : Slot → Bool
  | .unb => true
  | _ => false
theorem Slot.bound {s : Slot} (h : ¬ s.isUnb = true) : s ≠ .unb := fun z => by subst z; exact h rfl
/-- the arguments: a value (none), or the slot i handed over -/
def mkArgs : List (Option Nat) → List D → Env → Option (List Slot × Env)
  | [], [], ρ => some ([], ρ)
  | none :: sp, d :: ds, ρ => (mkArgs sp ds ρ).map fun p => (.val d :: p.1, p.2)
  | some i :: sp, ds, ρ => match mkArgs sp ds ρ with
    | some (ss, ρ') => (match ρ'[i]? with
      | some s => if s.isUnb then none else some (s :: ss, ρ'.set i .unb)
      | none => none)
    | none => none
  | _, _, _ => none
/-- what was handed over comes back -/
def putAll : List (Option Nat) → List Slot → Env → Env
  | none :: sp, ms, ρ => putAll sp ms ρ
  | some i :: sp, m :: ms, ρ => putAll sp ms (ρ.set i m)
  | _, _, ρ => ρ
inductive AmR (K : PySem.W.Frag) (G : Hp) (σ : L2.St) : List (Option Nat) → List V → List D → Prop
  | nil : AmR K G σ [] [] []
  | val {v : V} {d : D} {sp : List (Option Nat)} {vs : List V} {ds : List D} (h : Rep K G v d) (r : AmR K G σ sp vs ds) : AmR K G σ (none :: sp) (v :: vs) (d :: ds)
  | own {v : V} {i : Nat} {sp : List (Option Nat)} {vs : List V} {ds : List D} (h : σ[i]? = some (some v)) (r : AmR K G σ sp vs ds) : AmR K G σ (some i :: sp) (v :: vs) ds
theorem AmR.mono {K : PySem.W.Frag} {G G' : Hp} {σ : L2.St} (e : Ex G G') : ∀ {sp : List (Option Nat)} {vs : List V} {ds : List D}, AmR K G σ sp vs ds → AmR K G' σ sp vs ds
  | _, _, _, .nil => .nil
  | _, _, _, .val h r => .val (h.mono e) (r.mono e)
  | _, _, _, .own h r => .own h (r.mono e)
def PostM (K : PySem.W.Frag) (Wx : WX) (σ : L2.St) (sp : List (Option Nat)) (L W : List Addr) (H : Hp) (Q : List V → Hp → Prop) : Res (List D) → Prop
  | .ok ds ρ' => ∀ vs W' H', Stp L W H W' H' → Rl K L W' ρ' σ H' → AmR K (hide H' (W' ++ L)) σ sp vs ds → Q vs H'
  | .er e ρ' => ∀ c dd W' H', Stp L W H W' H' → Rl K L W' ρ' σ H' → ErrRep K (hide H' (W' ++ L)) c dd e → Wx c dd σ H'
  | .stuck => False
theorem PostM.step {K : PySem.W.Frag} {Wx : WX} {σ : L2.St} {sp : List (Option Nat)} {L W W1 : List Addr} {H H1 : Hp} {Q : List V → Hp → Prop} (a : Stp L W H W1 H1) : ∀ {r : Res (List D)}, PostM K Wx σ sp L W H Q r → PostM K Wx σ sp L W1 H1 Q r
  | .ok _ _, h => fun v W' H' st rl => h v W' H' (a.trans st) rl
  | .er _ _, h => fun c dd W' H' st rl er => h c dd W' H' (a.trans st) rl er
  | .stuck, h => h
def tM (K : PySem.W.Frag) (Wx : WX) (sp : List (Option Nat)) (m : M (List D)) : L2.TA := fun σ H Q => ∃ ρ L W, Rl K L W ρ σ H ∧ PostM K Wx σ sp L W H Q (m ρ)
@[simp] def ownA (i : Nat) (mr : M (List D)) : M (List D) := fun ρ => match ρ[i]? with
  | some s => if s.isUnb then .stuck else mr ρ
  | none => .stuck
def PAm (X : Cx) (Wx : WX) (sp : List (Option Nat)) (es : List Expr) (m : M (List D)) : Prop := PA X es (tM X.K Wx sp m)
section
variable {X : Cx} {Wx : WX}
theorem pam_nil : PAm X Wx [] [] nilA := PA_imp pa_nil fun σ H Q h => by
  obtain ⟨ρ, L, W, rl, p⟩ := h
  exact p [] W H .refl rl .nil
theorem pam_val {e : Expr} {es : List Expr} {sp : List (Option Nat)} {ma : M D} {mr : M (List D)} (ha : PD X Wx e ma) (hr : PAm X Wx sp es mr) (hs : starEach (e :: es) X.env = (false, eval e X.env) :: starEach es X.env := by rfl) : PAm X Wx (none :: sp) (e :: es) (consA ma mr) := by
  refine PA_imp (pa_cons ha hr hs) fun σ H Q h => ?_
  obtain ⟨ρ, L, W, rl, p⟩ := h
  refine bd_D (T := PostM X.K Wx σ (none :: sp) L W H Q) rl p fun x dx ρ1 W1 H1 st1 rl1 q1 p => ?_
  refine ⟨ρ1, L, W1, rl1, ?_⟩
  have p := PostM.step st1 p
  revert p
  cases mr ρ1 with
  | stuck => exact id
  | er e ρ' => exact id
  | ok ds ρ' => exact fun p vs W' H' st rl q => p (x :: vs) W' H' st rl (.val (st.rep q1) q)
theorem pam_own {i : Nat} {x : Str} {pos : Pos} {es : List Expr} {sp : List (Option Nat)} {mr : M (List D)} (hr : PAm X Wx sp es mr) (hN : X.N[i]? = some x := by rfl) (hv : Vis X.env.scope x := by first | exact Or.inl rfl | exact Or.inr (Or.inl rfl) | exact Or.inr (Or.inr rfl)) (hd : (x == ("__debug__" : Str)) = false := by decide)
    (hcd : (x == ("__classdict__" : Str)) = false := by decide) (hs : starEach (.Name x pos :: es) X.env = (false, eval (.Name x pos) X.env) :: starEach es X.env := by rfl) : PAm X Wx (some i :: sp) (.Name x pos :: es) (ownA i mr) := by
  refine PA_imp (pa_cons (pe_var (i := i) hN hv hd hcd) hr hs) fun σ H Q h => ?_
  obtain ⟨ρ, L, W, rl, p⟩ := h
  have p : PostM X.K Wx σ (some i :: sp) L W H Q (match ρ[i]? with
      | some s => if s.isUnb then .stuck else mr ρ
      | none => .stuck) := p
  split at p
  · rename_i s e
    by_cases hn : s.isUnb = true
    · rw [if_pos hn] at p; exact p.elim
    rw [if_neg hn] at p
    have n := Slot.bound hn
    obtain ⟨v, A, f, B, h1, _⟩ := rl.rel.get e n
    refine ⟨v, h1, ρ, L, W, rl, ?_⟩
    revert p
    cases mr ρ with
    | stuck => exact id
    | er e ρ' => exact id
    | ok ds ρ' => exact fun p vs W' H' st rl q => p (v :: vs) W' H' st rl (.own h1 q)
  · exact p.elim
end
section
variable {K : PySem.W.Frag} {L W : List Addr} {ρ : Env} {σ : L2.St} {H : Hp}
theorem Rl.take (r : Rl K L W ρ σ H) {i : Nat} {s : Slot} {v : V} (e : ρ[i]? = some s) (n : s ≠ .unb) (hv : σ[i]? = some (some v)) : ∃ W', Stp L W H W' H ∧ Rl K L W' (s :: ρ.set i .unb) (some v :: σ) H := by
  obtain ⟨v', A, f, B, h1, h2, h3, h5, _⟩ := r.rel.upd e n
  cases hv.symm.trans h1
  have p : (f ++ (A ++ B)).Perm W := by
    rw [h2, ← List.append_assoc]
    exact List.Perm.append_right B List.perm_append_comm
  have z := r.sub (.cons h3 h5) (p.nodup_iff.mpr r.nd) (fun a ha => p.subset ha)
  exact ⟨_, z.2, z.1⟩
/-- the arguments on the stack -/
theorem Rl.args (r : Rl K L W ρ σ H) : ∀ {sp : List (Option Nat)} {vs : List V} {ds : List D} {ss : List Slot} {ρ' : Env}, AmR K (hide H (W ++ L)) σ sp vs ds → mkArgs sp ds ρ = some (ss, ρ') → ∃ W', Stp L W H W' H ∧ Rl K L W' (ss ++ ρ') (vs.map some ++ σ) H ∧ vs.length = ss.length
  | _, _, _, ss, ρ', .nil, e => by cases e; exact ⟨W, .refl, r, rfl⟩
  | _, _, _, ss, ρ', .val (sp := sp) (ds := ds) h q, e => by
    simp only [mkArgs, Option.map_eq_some_iff] at e
    obtain ⟨⟨ss1, ρ1⟩, e1, e2⟩ := e
    cases e2
    obtain ⟨W1, st1, r1, l1⟩ := r.args q e1
    exact ⟨W1, st1, r1.push (st1.rep h), by simp [l1]⟩
  | _, _, _, ss, ρ', .own (i := i) (sp := sp) h q, e => by
    simp only [mkArgs] at e
    split at e
    · rename_i ss1 ρ1 e1
      split at e
      · rename_i s es
        by_cases hn : s.isUnb = true
        · rw [if_pos hn] at e; cases e
        rw [if_neg hn] at e
        cases e
        obtain ⟨W1, st1, r1, l1⟩ := r.args q e1
        have n := Slot.bound hn
        obtain ⟨W2, st2, r2⟩ := r1.take (i := ss1.length + i) (s := s) (v := _) (by rw [List.getElem?_append_right (by omega)]; simpa using es) n (by
          rw [List.getElem?_append_right (by rw [List.length_map]; omega), List.length_map, l1, Nat.add_sub_cancel_left]; exact h)
        refine ⟨W2, st1.trans st2, ?_, by simp [l1]⟩
        rw [List.set_append_right _ _ (by omega), Nat.add_sub_cancel_left] at r2
        exact r2
      · cases e
    · cases e
/-- the values that the slots handed over hold -/
def mvsOf : List (Option Nat) → List V → List V
  | none :: sp, _ :: vs => mvsOf sp vs
  | some _ :: sp, v :: vs => v :: mvsOf sp vs
  | _, _ => []
theorem Rl.puts : ∀ {sp : List (Option Nat)} {vs : List V} {ds : List D} {G : Hp} {ms : List Slot} {rs : Env} {rσ : L2.St} {W : List Addr} {ρ : Env}, AmR K G σ sp vs ds → rs.length = rσ.length → ms.length = (mvsOf sp vs).length → (∀ m ∈ ms, m ≠ .unb) → Rl K L W (ms ++ (rs ++ ρ)) ((mvsOf sp vs).map some ++ (rσ ++ σ)) H →
    ∃ W', Stp L W H W' H ∧ Rl K L W' (rs ++ putAll sp ms ρ) (rσ ++ σ) H
  | _, _, _, _, ms, rs, rσ, W, ρ, .nil, _, hm, _, r => by
    cases ms with
    | nil => exact ⟨W, .refl, r⟩
    | cons _ _ => cases hm
  | _, _, _, _, ms, rs, rσ, W, ρ, .val h q, hl, hm, hn, r => by
    obtain ⟨W', st, r'⟩ := Rl.puts q hl hm hn r
    exact ⟨W', st, r'⟩
  | _, _, _, _, [], rs, rσ, W, ρ, .own (i := i) h q, hl, hm, hn, r => by cases hm
  | _, _, _, _, m :: ms, rs, rσ, W, ρ, .own (i := i) (v := v) (sp := sp) (vs := vs) h q, hl, hm, hn, r => by
    have r : Rl K L W (m :: (ms ++ (rs ++ ρ))) (some v :: ((mvsOf sp vs).map some ++ (rσ ++ σ))) H := r
    have hm' : ms.length = (mvsOf sp vs).length := by simpa [mvsOf] using hm
    obtain ⟨W1, st1, r1⟩ := r.store (ms.length + (rs.length + i)) (hn m (by simp))
    rw [List.set_append_right _ _ (by omega), Nat.add_sub_cancel_left, List.set_append_right _ _ (by omega), Nat.add_sub_cancel_left] at r1
    rw [show ((mvsOf sp vs).map some ++ (rσ ++ σ)).set (ms.length + (rs.length + i)) (some v) = (mvsOf sp vs).map some ++ (rσ ++ σ) from by
      rw [List.set_append_right _ _ (by rw [List.length_map]; omega), List.length_map, hm', Nat.add_sub_cancel_left, List.set_append_right _ _ (by omega), hl, Nat.add_sub_cancel_left]
      congr 2
      apply List.ext_getElem?
      intro j
      by_cases e : i = j
      · subst e
        have : i < σ.length := (List.getElem?_eq_some_iff.mp h).1
        rw [List.getElem?_set_self this, h]
      · rw [List.getElem?_set_ne e]] at r1
    obtain ⟨W2, st2, r2⟩ := Rl.puts q hl hm' (fun x hx => hn x (by simp [hx])) r1
    exact ⟨W2, st1.trans st2, r2⟩
end
section
variable {K : PySem.W.Frag} {L W : List Addr} {ρ : Env} {σ : L2.St} {H : Hp}
/-- the callee's part and the caller's -/
theorem Rl.split {ss : Env} {us : L2.St} (r : Rl K L W (ss ++ ρ) (us ++ σ) H) (hl : us.length = ss.length) : ∃ Wc Wr, Rl K (L ++ Wr) Wc ss us H ∧
    ∀ {W' : List Addr} {H' : Hp} {ρ' : Env} {σ' : L2.St}, Stp (L ++ Wr) Wc H W' H' → Rl K (L ++ Wr) W' ρ' σ' H' → Rl K L (W' ++ Wr) (ρ' ++ ρ) (σ' ++ σ) H' ∧ Stp L W H (W' ++ Wr) H' := by
  obtain ⟨Wc, Wr, rfl, h1, h2⟩ := r.rel.split hl
  have cg : ∀ (V : List Addr) (G : Hp), hide G (V ++ (L ++ Wr)) = hide G ((V ++ Wr) ++ L) := fun V G => hide_congr fun a => by
    simp only [List.mem_append]
    constructor
    · rintro (h | h | h)
      · exact .inl (.inl h)
      · exact .inr h
      · exact .inl (.inr h)
    · rintro ((h | h) | h)
      · exact .inl h
      · exact .inr (.inr h)
      · exact .inr (.inl h)
  obtain ⟨n1, n2, n3⟩ := List.nodup_append.mp r.nd
  refine ⟨Wc, Wr, ⟨by rw [cg]; exact h1, n1, fun a ha z => ?_, fun a ha => ?_⟩, fun {W' H' ρ' σ'} st q => ?_⟩
  · rcases List.mem_append.mp ha with h | h
    · exact r.dj a h (by simp [z])
    · exact n3 a z a h rfl
  · rcases List.mem_append.mp ha with h | h
    · exact r.lk a h
    · exact h2.there a h
  · have stp : Stp L (Wc ++ Wr) H (W' ++ Wr) H' := by
      refine ⟨by rw [← cg, ← cg]; exact st.ex, fun a h => ?_, fun a h => st.lk a (by simp [h])⟩
      rcases List.mem_append.mp h with h | h
      · exact (st.new a h).imp (fun z => by simp [z]) id
      · exact .inl (by simp [h])
    refine ⟨⟨RelE.app (by rw [← cg]; exact q.rel) (h2.mono stp.ex fun a h => st.lk a (by simp [h])), ?_, ?_, fun a h => q.lk a (by simp [h])⟩, stp⟩
    · exact List.nodup_append.mpr ⟨q.nd, n2, fun a ha b hb e => by subst e; exact q.dj a (by simp [hb]) ha⟩
    · intro a ha z
      rcases List.mem_append.mp z with z | z
      · exact q.dj a (by simp [ha]) z
      · exact r.dj a ha (by simp [z])
theorem sel_mvs : ∀ (sp : List (Option Nat)) (vs : List V), sel (sp.map Option.isSome) vs = mvsOf sp vs
  | [], vs => by simp [mvsOf]
  | none :: sp, [] => by simp [mvsOf]
  | some _ :: sp, [] => by simp [mvsOf]
  | none :: sp, v :: vs => by simp [mvsOf, sel_mvs sp vs]
  | some _ :: sp, v :: vs => by simp [mvsOf, sel_mvs sp vs]
theorem AmR.length {G : Hp} : ∀ {sp : List (Option Nat)} {vs : List V} {ds : List D}, AmR K G σ sp vs ds → vs.length = sp.length
  | _, _, _, .nil => rfl
  | _, _, _, .val _ r => congrArg (· + 1) r.length
  | _, _, _, .own _ r => congrArg (· + 1) r.length
end
/-- a def that changes what it is handed, called -/
@[simp] def FM.res (sp : List (Option Nat)) (ρ : Env) : FM → Res Slot
  | .ok s ms => if ms.all (fun m => !m.isUnb) ∧ ms.length = (sp.filter Option.isSome).length then .ok s (putAll sp ms ρ) else .stuck
  | .er e ms => if ms.all (fun m => !m.isUnb) ∧ ms.length = (sp.filter Option.isSome).length then .er e (putAll sp ms ρ) else .stuck
  | .stuck => .stuck
@[simp] def callMM (F : List Slot → FM) (sp : List (Option Nat)) (ma : M (List D)) : M Slot := fun ρ => (ma ρ).bd fun ds ρ1 => match mkArgs sp ds ρ1 with
  | some (ss, ρ2) => (F ss).res sp ρ2
  | none => .stuck
theorem mvsOf_len : ∀ (sp : List (Option Nat)) (vs : List V), vs.length = sp.length → (mvsOf sp vs).length = (sp.filter Option.isSome).length
  | [], [], _ => rfl
  | [], _ :: _, h => by cases h
  | _ :: _, [], h => by cases h
  | none :: sp, v :: vs, h => by simpa [mvsOf] using mvsOf_len sp vs (by simpa using h)
  | some _ :: sp, v :: vs, h => by simpa [mvsOf] using mvsOf_len sp vs (by simpa using h)
section
variable {X : Cx} {Wx : WX} {K : PySem.W.Frag} {L W : List Addr} {ρ : Env} {σ : L2.St} {H : Hp} {Q : VK}
theorem spM_use {F : List Slot → FM} {sp : List (Option Nat)} {vs : List V} {ds : List D} {ss : List Slot} {ρ2 : Env} (r : Rl K L W ρ σ H) (q : AmR K (hide H (W ++ L)) σ sp vs ds) (e : mkArgs sp ds ρ = some (ss, ρ2)) (p : Post K Wx σ L W H Q ((F ss).res sp ρ2)) :
    spM K (sp.map Option.isSome) F vs H Q fun c d H' => Wx c d σ H' := by
  obtain ⟨W1, st1, r1, l1⟩ := r.args q e
  obtain ⟨Wc, Wr, rc, jn⟩ := r1.split (by simpa using l1)
  refine ⟨L ++ Wr, Wc, ss, by rw [List.length_map]; exact q.length, rc, ?_⟩
  rw [sel_mvs]
  have hlen := mvsOf_len sp vs q.length
  revert p
  cases F ss with
  | stuck => exact fun p => p
  | ok s ms =>
    intro p v W' H' st rl
    by_cases c : ms.all (fun m => !m.isUnb) ∧ ms.length = (sp.filter Option.isSome).length
    · have p : Post K Wx σ L W H Q (if ms.all (fun m => !m.isUnb) ∧ ms.length = (sp.filter Option.isSome).length then .ok s (putAll sp ms ρ2) else .stuck) := p
      rw [if_pos c] at p
      obtain ⟨j1, j2⟩ := jn st rl
      rw [List.append_assoc, List.append_assoc] at j1
      obtain ⟨W3, st3, r3⟩ := Rl.puts (rs := [s]) (rσ := [some v]) q rfl (c.2.trans hlen.symm) (fun m hm z => by
        have := List.all_eq_true.mp c.1 m hm
        subst z; simp at this) j1
      exact p v W3 H' ((st1.trans j2).trans st3) r3
    · have p : Post K Wx σ L W H Q (if ms.all (fun m => !m.isUnb) ∧ ms.length = (sp.filter Option.isSome).length then .ok s (putAll sp ms ρ2) else .stuck) := p
      rw [if_neg c] at p
      exact p.elim
  | er e ms =>
    intro p cl dd W' H' st rl er
    by_cases c : ms.all (fun m => !m.isUnb) ∧ ms.length = (sp.filter Option.isSome).length
    · have p : Post K Wx σ L W H Q (if ms.all (fun m => !m.isUnb) ∧ ms.length = (sp.filter Option.isSome).length then .er e (putAll sp ms ρ2) else .stuck) := p
      rw [if_pos c] at p
      obtain ⟨j1, j2⟩ := jn st rl
      obtain ⟨W3, st3, r3⟩ := Rl.puts (rs := []) (rσ := []) q rfl (c.2.trans hlen.symm) (fun m hm z => by
        have := List.all_eq_true.mp c.1 m hm
        subst z; simp at this) j1
      refine p cl dd W3 H' ((st1.trans j2).trans st3) r3 (er.mono ?_)
      refine Ex.trans ?_ st3.ex
      exact hide_mono (Ex.refl _) fun a h => .inl (by
        simp only [List.mem_append] at h ⊢
        rcases h with (h | h) | h
        · exact .inl h
        · exact .inr (.inr h)
        · exact .inr (.inl h))
    · have p : Post K Wx σ L W H Q (if ms.all (fun m => !m.isUnb) ∧ ms.length = (sp.filter Option.isSome).length then .er e (putAll sp ms ρ2) else .stuck) := p
      rw [if_neg c] at p
      exact p.elim
theorem px_callM {k : Nat} {f : Addr} {fd : FuncData} {ps : List Str} {F : List Slot → FM} {x : Str} {p pos : Pos} {e : Expr} {es : List Expr} {sp : List (Option Nat)} {ma : M (List D)} {mm : List Bool} (G : FnG X.prog X.w X.K X.mg X.base k f fd ps (spM X.K mm F)) (hr : Rm k X.A) (tk : Takes X Wx)
    (hm : X.mg x = some (.ref f)) (hk : PySem.W.keepIn X.K (.ref f) = true) (ha : PAm X Wx sp (e :: es) ma) (hb2 : Binds X.K fd ps []) (hsp : sp.map Option.isSome = mm := by rfl) (hg : Gl X x := by rfl) (hdb : (x == ("__debug__" : Str)) = false := by decide) (he : starEach (e :: es) X.env = (false, eval e X.env) :: starEach es X.env := by rfl) (hpl : (backTo pos (starEach es X.env)).any (·.1) = false := by rfl) :
    PX X Wx (.Call (.Name x p) (e :: es) [] pos) (callMM F sp ma) := by
  subst hsp
  refine ⟨fun pins s σ H Q I h => ?_⟩
  obtain ⟨ρ, L, W, rl, p⟩ := h
  refine wpAny_Call_Name_kw (ld_glob I hg hm ?_ hdb)
  have h : tM X.K Wx sp ma σ H (fun vs H1 => ∃ ds ρ1 W1, Rl X.K L W1 ρ1 σ H1 ∧ AmR X.K (hide H1 (W1 ++ L)) σ sp vs ds ∧ Post X.K Wx σ L W1 H1 Q (match mkArgs sp ds ρ1 with
      | some (ss, ρ2) => (F ss).res sp ρ2
      | none => .stuck)) := by
    refine ⟨ρ, L, W, rl, ?_⟩
    revert p
    show Post X.K Wx σ L W H Q ((ma ρ).bd fun ds ρ1 => _) → _
    cases ma ρ with
    | stuck => exact id
    | er e ρ' => exact id
    | ok ds ρ' => exact fun p vs W' H' st rl q => ⟨ds, ρ', W', rl, q, p.step st⟩
  refine PySem.W.callWith_K (h₀ := X.base) I.ok.mod.kin hk (thn (ha.run pos pins s σ H _ I h) fun us s1 ⟨vs, H1, I1, r, ds, ρ1, W1, rl1, q1, p⟩ => ⟨I1.kIn, ?_⟩) he hpl
  split at p
  · rename_i ss ρ2 e2
    have hs := spM_use rl1 q1 e2 p
    have hl : (us ++ []).length = ps.length := by rw [List.append_nil, ← r.length]; exact G.len _ _ _ _ hs
    refine wpAny_call (codeAny_mono (G.run X.A X.stack s1 H1 ⟨us, []⟩ us vs Q _ hr I1.env0 (by simpa using hb2 s1 us I1.kIn hl) r hs) fun r s' hq => ?_)
    cases r with
    | error e => exact passAt tk σ pins H1 s1 e s' I1 hq
    | ok fl =>
      cases fl with
      | ret u => exact I1.after hq
      | next => exact hq.elim
      | brk => exact hq.elim
      | cont => exact hq.elim
  · exact p.elim
end
/-! ### a name's slot, given away -/
@[simp] def mvM (i : Nat) : M Slot := fun ρ => match ρ[i]? with
  | some s => if s.isUnb then .stuck else .ok s (ρ.set i .unb)
  | none => .stuck
theorem px_mv (i : Nat) {X : Cx} {Wx : WX} {x : Str} {pos : Pos} (hN : X.N[i]? = some x := by rfl) (hv : Vis X.env.scope x := by first | exact Or.inl rfl | exact Or.inr (Or.inl rfl) | exact Or.inr (Or.inr rfl)) (hd : (x == ("__debug__" : Str)) = false := by decide)
    (hcd : (x == ("__classdict__" : Str)) = false := by decide) : PX X Wx (.Name x pos) (mvM i) := by
  refine PE_imp (pe_var (i := i) hN hv hd hcd) fun σ H Q h => ?_
  obtain ⟨ρ, L, W, r, p⟩ := h
  revert p
  show Post X.K Wx σ L W H Q (mvM i ρ) → _
  unfold mvM
  split
  · rename_i s e
    by_cases hn : s.isUnb = true
    · rw [if_pos hn]; exact fun p => p.elim
    · rw [if_neg hn]
      intro p
      have n := Slot.bound hn
      obtain ⟨v, A, f, B, h1, _⟩ := r.rel.get e n
      obtain ⟨W', st, r'⟩ := r.take e n h1
      exact ⟨v, h1, p v W' H st r'⟩
  · exact fun p => p.elim
theorem takes0 {X : Cx} : Takes X WX0 := fun _ _ ⟨_, _, _, _, _, _, _, _, _, _, _, _, _, _, _, _, w⟩ => w.elim
end P
/-! The P-layer, 13: repr of data. -/
namespace P
open PySem PySem.Spec PyProof.Rows L2

def reprD : List D → Option D
  | [d] => match toP d with
    | some p => if p.showable && decide (p.depth ≤ 40) && decide (p.shown.length ≤ 1000000) && !p.hasDict then some (.str p.shown) else none
    | none => none
  | _ => none
section
variable {X : Cx}
theorem call_reprG (hg : X.A.guards = some []) (hu : X.A.units + 100 < cLine) : CallR X (.builtin "repr") (fun xs H Q => ∃ x p, xs = [x] ∧ Dp X.K H x p ∧ p.showable = true ∧ p.depth ≤ 40 ∧ p.shown.length ≤ sizeLine ∧ p.hasDict = false ∧ Q (.str p.shown) H) := by
  intro pins s σ H xs us Q I r h
  obtain ⟨x, p, rfl, hd, h1, h2, h3, h4, q⟩ := h
  obtain ⟨u, rfl, ru⟩ := vals1 r
  cases hd with
  | non =>
    obtain rfl : u = Value.none := ru
    exact _root_.PySem.P.repr_of_none ⟨.str _, H, I.tok _, ⟨_, rfl⟩, q⟩
  | bl b =>
    obtain rfl : u = Value.bool b := ru
    exact _root_.PySem.P.repr_of_bool ⟨.str _, H, I.tok _, ⟨_, rfl⟩, q⟩
  | int i =>
    obtain ⟨t, rfl⟩ := (show ∃ t, u = Value.int i t from ru)
    exact _root_.PySem.P.repr_of_int (of_decide_eq_true h1) ⟨.str _, H, I.tok _, ⟨_, rfl⟩, q⟩
  | str y =>
    obtain ⟨t, rfl⟩ := (show ∃ t, u = Value.str y t from ru)
    exact _root_.PySem.P.repr_of_str ⟨.str _, H, I.tok _, ⟨_, rfl⟩, q⟩ h3
  | lst hq hr =>
    obtain ⟨as, rd⟩ := Dp.reads I _ _ _ (.lst hq hr) ru
    obtain rfl : u = Value.ref _ := ru
    exact repr_of_reads' rd h1 (PyData.noDict_hsm h4) hg (by omega) (fun _ _ e => e) (fun h' u tk hk => ⟨.str _, H, I.kept hk, ⟨_, rfl⟩, q⟩) h3
  | tup hq hr =>
    obtain ⟨as, rd⟩ := Dp.reads I _ _ _ (.tup hq hr) ru
    obtain rfl : u = Value.ref _ := ru
    exact repr_of_reads' rd h1 (PyData.noDict_hsm h4) hg (by omega) (fun _ _ e => e) (fun h' u tk hk => ⟨.str _, H, I.kept hk, ⟨_, rfl⟩, q⟩) h3
theorem cd_repr (hg : X.A.guards = some []) (hu : X.A.units + 100 < cLine) : CallD X (.builtin "repr") reprD := ⟨_, call_reprG hg hu, fun S H xs ds d Q al r e k => by
  unfold reprD at e
  split at e
  · split at e
    · rename_i p hp
      split at e
      · rename_i hh
        cases e
        obtain ⟨x, rfl, q⟩ := r.one
        simp only [Bool.and_eq_true, decide_eq_true_eq, Bool.not_eq_true'] at hh
        exact ⟨x, p, rfl, dp_ex hide_ex (q.dp hp), hh.1.1.1, hh.1.1.2, big_line hh.1.2, hh.2, k _ H (Ex.refl H) (.str _)⟩
      · cases e
    · cases e
  · cases e⟩
end
theorem jOk {mm : List Bool} {J : List Nat} (h : (List.range mm.length).all (fun j => !(mm[j]? == some true) || J.contains j) = true) : ∀ j, mm[j]? = some true → j ∈ J := fun j e => by
  have l : j < mm.length := (List.getElem?_eq_some_iff.mp e).1
  have z := List.all_eq_true.mp h j (List.mem_range.mpr l)
  simpa [e] using z
end P
/-! The P-layer, 14: how the pure functions are reckoned. -/
namespace P
open PySem PySem.Spec PyProof.Rows L2

/-! ### operators at values -/
section
variable {i j : Int} {x y : Str} {ds es : List D}
@[simp] theorem addD_i : addD (.int i) (.int j) = some (.int (i + j)) := rfl
@[simp] theorem addD_t : addD (.tup ds) (.tup es) = if ds.length + es.length ≤ 1000000 then some (.tup (ds ++ es)) else none := rfl
@[simp] theorem addD_l : addD (.lst ds) (.lst es) = if ds.length + es.length ≤ 1000000 then some (.lst (ds ++ es)) else none := rfl
@[simp] theorem addD_s : addD (.str x) (.str y) = if x.length + y.length ≤ 1000000 then some (.str (x ++ y)) else none := rfl
@[simp] theorem modD_i (h : 0 < j) : modD (.int i) (.int j) = some (.int (i % j)) := if_pos h
theorem big8000 (h : j < 18446744073709551616) (h0 : 0 < j) : j.natAbs < 2 ^ 8000 := Nat.lt_of_lt_of_le (by omega : j.natAbs < 2 ^ 64) (Nat.pow_le_pow_right (by decide) (by decide))
@[simp] theorem fdivD_i (h : 0 < j) (h2 : j < 18446744073709551616) : fdivD (.int i) (.int j) = some (.int (i / j)) := if_pos ⟨h, big8000 h2 h⟩
theorem mulD_ok (h : mulOk i j = true) : mulD (.int i) (.int j) = some (.int (i * j)) := by simp [mulD, mulI, h]
@[simp] theorem mulD_l (h1 : -9223372036854775808 < i) (h2 : i < 9223372036854775808) : mulD (.int i) (.int j) = some (.int (i * j)) := mulD_ok (by
  have : i.natAbs < 2 ^ 63 := by omega
  simp [mulOk, this])
@[simp] theorem mulD_r (h1 : -9223372036854775808 < j) (h2 : j < 9223372036854775808) : mulD (.int i) (.int j) = some (.int (i * j)) := mulD_ok (by
  have : j.natAbs < 2 ^ 63 := by omega
  simp [mulOk, this])
@[simp] theorem mulD_lst : mulD (.lst ds) (.int j) = if j < 1000000 ∧ -1000000 < j ∧ ds.length * j.toNat ≤ 1000000 then some (.lst (List.replicate j.toNat ds).flatten) else none := by
  simp [mulD, mulI, mulT, mulL]
theorem log2_lt {n k : Nat} (h : n < 2 ^ k) (hk : 0 < k) : n.log2 < k := by
  by_cases h0 : n = 0
  · subst h0; simpa using hk
  · exact (Nat.log2_lt h0).mpr h
/-- a power of what has at most k bits -/
theorem powD_k (k : Nat) (h0 : 0 ≤ j) (hk : 0 < k) (hi : i.natAbs < 2 ^ k) (hj : k * j.toNat ≤ 1000000) : powD (.int i) (.int j) = some (.int (i ^ j.toNat)) := by
  have := log2_lt hi hk
  have : (i.natAbs.log2 + 1) * j.toNat ≤ k * j.toNat := Nat.mul_le_mul_right _ this
  exact if_pos ⟨h0, by omega⟩
@[simp] theorem eqD_i : eqD (.int i) (.int j) = some (.bl (decide (i = j))) := rfl
@[simp] theorem eqD_s : eqD (.str x) (.str y) = some (.bl (decide (x = y))) := rfl
@[simp] theorem eqD_b {a b : Bool} : eqD (.bl a) (.bl b) = some (.bl (decide (a = b))) := rfl
@[simp] theorem neD_i : neD (.int i) (.int j) = some (.bl (!decide (i = j))) := rfl
@[simp] theorem neD_s : neD (.str x) (.str y) = some (.bl (!decide (x = y))) := rfl
@[simp] theorem neD_b {a b : Bool} : neD (.bl a) (.bl b) = some (.bl (!decide (a = b))) := rfl
@[simp] theorem max2D_i : max2D [.int i, .int j] = some (.int (max i j)) := by
  show some (D.int (if j > i then j else i)) = _
  rw [show (if j > i then j else i) = max i j from by split <;> omega]
@[simp] theorem min2D_i : min2D [.int i, .int j] = some (.int (min i j)) := by
  show some (D.int (if j < i then j else i)) = _
  rw [show (if j < i then j else i) = min i j from by split <;> omega]
@[simp] theorem absD_i : absD [.int i] = some (.int i.natAbs) := by
  show some (D.int (if i < 0 then -i else i)) = _
  rw [show (if i < 0 then -i else i) = (i.natAbs : Int) from by split <;> omega]
@[simp] theorem lenD_t : lenD [.tup ds] = some (.int ds.length) := rfl
@[simp] theorem lenD_l : lenD [.lst ds] = some (.int ds.length) := rfl
@[simp] theorem lenD_c {ns : List Int} : lenD [.scr ns] = some (.int ns.length) := rfl
@[simp] theorem intD_i : intD [.int i] = some (.int i) := rfl
@[simp] theorem intD_b {b : Bool} : intD [.bl b] = some (.int (if b then 1 else 0)) := rfl
@[simp] theorem tupleD_l : tupleD [.lst ds] = some (.tup ds) := rfl
@[simp] theorem tupleD_t : tupleD [.tup ds] = some (.tup ds) := rfl
@[simp] theorem listD_l : listD [.lst ds] = some ds := rfl
@[simp] theorem listD_t : listD [.tup ds] = some ds := rfl
@[simp] theorem itL_l : itL (.lst ds) = some ds := rfl
@[simp] theorem itL_c {ns : List Int} : itL (.scr ns) = some (ns.map .int) := rfl
@[simp] theorem itT_t : itT (.tup ds) = some ds := rfl
theorem ixN_nn {n : Nat} (h0 : 0 ≤ i) (h : i < n) : ixN n i = some i.toNat := by
  unfold ixN
  simp [h0]
  omega
@[simp] theorem ixD_t (h0 : 0 ≤ i) (h : i < ds.length) : ixD (.tup ds) (.int i) = ds[i.toNat]? := by
  show atI ds i = _
  unfold atI; rw [ixN_nn h0 h]; rfl
@[simp] theorem ixD_l (h0 : 0 ≤ i) (h : i < ds.length) : ixD (.lst ds) (.int i) = ds[i.toNat]? := by
  show atI ds i = _
  unfold atI; rw [ixN_nn h0 h]; rfl
@[simp] theorem atI_nn (h0 : 0 ≤ i) (h : i < ds.length) : atI ds i = ds[i.toNat]? := by
  unfold atI; rw [ixN_nn h0 h]; rfl
@[simp] theorem ixD_c {ns : List Int} (h0 : 0 ≤ i) (h : i < ns.length) : ixD (.scr ns) (.int i) = ns[i.toNat]?.map .int := by
  show (atI ns i).map D.int = _
  unfold atI; rw [ixN_nn h0 h]; rfl
@[simp] theorem rng1_i (h : -1000000000 ≤ i) (h2 : i ≤ 1000000000) : rng1 [.int i] = some (rngL 0 i.toNat) := if_pos ⟨h, h2⟩
@[simp] theorem rng2_i (h : -1000000000 ≤ i) (h2 : i ≤ 1000000000) (h3 : -1000000000 ≤ j) (h4 : j ≤ 1000000000) : rng2 [.int i, .int j] = some (rngL i (j - i).toNat) := if_pos ⟨⟨h, h2⟩, ⟨h3, h4⟩⟩
@[simp] theorem sumD_l {ns : List Int} : sumD [.lst (ns.map .int)] = some (.int ns.sum) := by simp [sumD, asInts_map]
@[simp] theorem allD_l {bs : List Bool} : allD [.lst (bs.map .bl)] = some (.bl (bs.all id)) := by simp [allD, asBls_map]
@[simp] theorem anyD_l {bs : List Bool} : anyD [.lst (bs.map .bl)] = some (.bl (bs.any id)) := by simp [anyD, asBls_map]
@[simp] theorem fz_val {d : D} : (Slot.val d).fz = some d := rfl
@[simp] theorem fz_own : (Slot.ownL (ds.map .val)).fz = some (.lst ds) := by simp [Slot.fz, fzs_vals]
@[simp] theorem fzs_nil : fzs [] = some [] := rfl
@[simp] theorem fzs_cons {s : Slot} {r : List Slot} : fzs (s :: r) = s.fz.bind fun d => (fzs r).map (d :: ·) := by
  simp only [fzs]
  cases s.fz <;> cases fzs r <;> rfl
@[simp] theorem fzs_map : fzs (ds.map .val) = some ds := fzs_vals ds
@[simp] theorem pick_nil {α : Type} {us : List α} : pick [] us = [] := rfl
@[simp] theorem pick_cons {α : Type} {us : List α} {k : Nat} {r : List Nat} : pick (k :: r) us = match us[k]? with
    | some u => u :: pick r us
    | none => pick r us := by
  unfold pick
  rw [List.filterMap_cons]
  cases us[k]? <;> rfl
@[simp] theorem fz_ownC {s : Slot} {r : List Slot} : (Slot.ownL (s :: r)).fz = (fzs (s :: r)).map .lst := rfl
@[simp] theorem fz_own0 : (Slot.ownL []).fz = some (.lst []) := rfl
@[simp] theorem getL_z {ρ : Env} {ss : List Slot} : getL (.ownL ss :: ρ) 0 = valsOf ss := rfl
@[simp] theorem getL_s {ρ : Env} {s : Slot} {n : Nat} : getL (s :: ρ) (n + 1) = getL ρ n := rfl
@[simp] theorem valsOf_nil : valsOf [] = some [] := rfl
@[simp] theorem valsOf_cons {d : D} {r : List Slot} : valsOf (.val d :: r) = (valsOf r).map (d :: ·) := rfl
@[simp] theorem rngL_len {n : Nat} : (rngL i n).length = n := by simp [rngL]
end
theorem mem_rngL {lo : Int} {n : Nat} {d : D} (h : d ∈ rngL lo n) : ∃ i : Nat, i < n ∧ d = .int (lo + i) := by
  simp only [rngL, List.mem_map, List.mem_range] at h
  obtain ⟨i, h1, rfl⟩ := h
  exact ⟨i, h1, rfl⟩
theorem get_rngL {lo : Int} {n k : Nat} {d : D} (h : (rngL lo n)[k]? = some d) : k < n ∧ d = .int (lo + k) := by
  have h1 : k < n := by
    have := (List.getElem?_eq_some_iff.mp h).1
    simpa using this
  simp [rngL, h1] at h
  exact ⟨h1, h.symm⟩
theorem rngL_eq (lo : Int) (n : Nat) : rngL lo n = ((List.range n).map fun i : Nat => lo + (i : Int)).map D.int := by simp [rngL]

/-! ### comprehensions -/
theorem lcL_eq {vs : List Nat} {b : D → Env → Option Env} {t : M Bool} {m : M D} {ρ : Env} (T : D → Bool) (F : D → D) : ∀ (ds : List D), (∀ d ∈ ds, ∃ ρ1, b d ρ = some ρ1 ∧ t ρ1 = .ok (T d) ρ1 ∧ (T d = true → m ρ1 = .ok (F d) ρ1) ∧ wipeP ρ1 vs = ρ) →
    lcL vs b t m ds ρ = .ok ((ds.filter T).map F) ρ
  | [], _ => rfl
  | d :: ds, h => by
    obtain ⟨ρ1, h1, h2, h3, h4⟩ := h d (by simp)
    have ih := lcL_eq (vs := vs) (b := b) (t := t) (m := m) T F ds fun x hx => h x (by simp [hx])
    unfold lcL
    simp only [h1, h2]
    cases c : T d with
    | true => simp only [h3 c, h4, ih, Res.map, List.filter_cons, c, if_true, List.map_cons]
    | false => simp only [h4, ih, List.filter_cons, c]; rfl

/-! ### loops -/
theorem whileS_succ (c : M Bool) (body : S) (n : Nat) (ρ : Env) : whileS c body (n + 1) ρ = Out.of ((c ρ).bd fun b ρ1 => .ok (if b then lpO (whileS c body n) (body ρ1) else .nx ρ1) ρ1) := rfl
/-- a loop that runs k turns through f -/
theorem whileS_iter {c : M Bool} {body : S} (f : Nat → Env) (k : Nat) (hb : ∀ i, i < k → c (f i) = .ok true (f i) ∧ body (f i) = .nx (f (i + 1))) (he : c (f k) = .ok false (f k)) : ∀ (j n : Nat), j ≤ k → k - j < n → whileS c body n (f j) = .nx (f k) := by
  intro j n
  induction n generalizing j with
  | zero => intro _ h; omega
  | succ n ih =>
    intro h1 h2
    rw [whileS_succ]
    by_cases e : j = k
    · subst e; rw [he]; rfl
    · obtain ⟨h3, h4⟩ := hb j (by omega)
      rw [h3]
      show lpO (whileS c body n) (body (f j)) = _
      rw [h4]
      exact ih (j + 1) (by omega) (by omega)
/-- .. by an invariant and a measure -/
theorem whileS_inv {c : M Bool} {body : S} (I : Nat → Env → Prop) (R : Env → Prop)
    (h : ∀ n ρ, I n ρ → (c ρ = .ok false ρ ∧ R ρ) ∨ (c ρ = .ok true ρ ∧ ∃ ρ1 m, body ρ = .nx ρ1 ∧ m < n ∧ I m ρ1)) : ∀ (n : Nat) (ρ : Env), I n ρ → ∀ fuel, n < fuel → ∃ ρ', whileS c body fuel ρ = .nx ρ' ∧ R ρ' := by
  intro n
  induction n using Nat.strongRecOn with
  | ind n ih =>
    intro ρ hI fuel hf
    cases fuel with
    | zero => omega
    | succ fuel =>
      rw [whileS_succ]
      rcases h n ρ hI with ⟨h1, h2⟩ | ⟨h1, ρ1, m, h2, h3, h4⟩
      · rw [h1]; exact ⟨ρ, rfl, h2⟩
      · rw [h1]
        show ∃ ρ', lpO (whileS c body fuel) (body ρ) = .nx ρ' ∧ R ρ'
        rw [h2]
        exact ih m h3 ρ1 h4 fuel (by omega)
theorem forL_inv {b : D → Env → Option Env} {body : S} (ds : List D) (I : Nat → Env → Prop) (h : ∀ i d ρ, ds[i]? = some d → I i ρ → ∃ ρ1 ρ2, b d ρ = some ρ1 ∧ body ρ1 = .nx ρ2 ∧ I (i + 1) ρ2) (ρ : Env) (h0 : I 0 ρ) : ∃ ρ', forL b body ds ρ = .nx ρ' ∧ I ds.length ρ' := by
  suffices g : ∀ (es : List D) (i : Nat) (ρ : Env), ds.drop i = es → i ≤ ds.length → I i ρ → ∃ ρ', forL b body es ρ = .nx ρ' ∧ I ds.length ρ' from g ds 0 ρ rfl (Nat.zero_le _) h0
  intro es
  induction es with
  | nil =>
    intro i ρ e hi hI
    have : ds.length ≤ i := List.drop_eq_nil_iff.mp e
    have : i = ds.length := by omega
    subst this
    exact ⟨ρ, rfl, hI⟩
  | cons d es ih =>
    intro i ρ e hi hI
    have hl : i < ds.length := by
      apply Classical.byContradiction
      intro z
      rw [List.drop_eq_nil_of_le (by omega)] at e
      cases e
    rw [List.drop_eq_getElem_cons hl] at e
    injection e with e1 e2
    obtain ⟨ρ1, ρ2, h1, h2, h3⟩ := h i d ρ (by rw [List.getElem?_eq_getElem hl, e1]) hI
    rw [forL_cons, h1]
    show ∃ ρ', lpO (forL b body es) (body ρ1) = .nx ρ' ∧ _
    rw [h2]
    exact ih (i + 1) ρ2 e2 hl h3

/-! ### repr -/
mutual
def rK : D → Bool
  | .non | .bl _ | .str _ => true
  | .int i => decide (i.natAbs.log2 < 1920)
  | .tup ds | .lst ds => rKs ds
  | _ => false
def rKs : List D → Bool
  | [] => true
  | d :: r => rK d && rKs r
end
mutual
def rN : D → Nat
  | .non => 4
  | .bl _ => 5
  | .int _ => 1921
  | .str x => (reprText x).length
  | .tup ds => rNs ds + 4
  | .lst ds => rNs ds + 4
  | _ => 0
def rNs : List D → Nat
  | [] => 0
  | d :: r => rN d + 2 + rNs r
end
mutual
def rD : D → Nat
  | .tup ds | .lst ds => rDs ds + 1
  | _ => 0
def rDs : List D → Nat
  | [] => 0
  | d :: r => max (rD d) (rDs r)
end
theorem listText_len (ts : List Str) : (listText ts).length ≤ piled ts + 4 := by
  cases ts with
  | nil => decide +kernel
  | cons t r =>
    have h := textFrom_length_pos r 1 (("[" : Str) ++ (if (0 : Nat) > 0 then ", " else "" : String) ++ t) (Nat.succ_pos 0)
    have e : ((("[" : Str) ++ (if (0 : Nat) > 0 then ", " else "" : String) ++ t)).length = 1 + t.length := by
      rw [strLen_append, strLen_append]; rfl
    have hX : (listText (t :: r)).length = (textFrom 0 "[" (t :: r)).length + 1 := by
      show (textFrom 0 "[" (t :: r) ++ "]").length = _
      rw [strLen_append]; rfl
    have hY : (textFrom 0 "[" (t :: r)).length = (textFrom 1 (("[" : Str) ++ (if (0 : Nat) > 0 then ", " else "" : String) ++ t) r).length := rfl
    rw [hX, hY, h, e, piled_cons]; omega
theorem tupleText_len (ts : List Str) : (tupleText ts).length ≤ piled ts + 4 := by
  unfold tupleText
  rw [strLen_append, strLen_append]
  have e1 : ((("(" : String) : Str)).length = 1 := rfl
  have e3 : (((if ts.length == 1 then ",)" else ")" : String) : Str)).length ≤ 2 := by split <;> decide
  rw [e1]
  by_cases h : ts = []
  · subst h; decide +kernel
  · have := join_length_add ts h
    omega
mutual
theorem r_of : ∀ (d : D), rK d = true → ∃ p, toP d = some p ∧ p.showable = true ∧ p.hasDict = false ∧ p.depth ≤ rD d ∧ p.shown.length ≤ rN d
  | .non, _ => ⟨_, rfl, rfl, rfl, by simp [PyData.depth], by decide +kernel⟩
  | .bl b, _ => ⟨_, rfl, rfl, rfl, by simp [PyData.depth], by cases b <;> decide +kernel⟩
  | .int i, h => ⟨_, rfl, by simpa [rK, PyData.showable] using h, rfl, by simp [PyData.depth], by
    have := int_text_len_1921 (of_decide_eq_true h)
    simpa [PyData.shown, rN] using this⟩
  | .str x, _ => ⟨_, rfl, rfl, rfl, by simp [PyData.depth], by simp [PyData.shown, rN]⟩
  | .tup ds, h => by
    obtain ⟨ps, h1, h2, h3, h4, h5⟩ := rs_of ds (by simpa [rK] using h)
    refine ⟨.tuple ps, by simp [toP, h1], by simpa [PyData.showable] using h2, by simpa [PyData.hasDict] using h3, by simp [PyData.depth, rD]; exact h4, ?_⟩
    simp only [PyData.shown, rN]
    exact Nat.le_trans (tupleText_len _) (by omega)
  | .lst ds, h => by
    obtain ⟨ps, h1, h2, h3, h4, h5⟩ := rs_of ds (by simpa [rK] using h)
    refine ⟨.list ps, by simp [toP, h1], by simpa [PyData.showable] using h2, by simpa [PyData.hasDict] using h3, by simp [PyData.depth, rD]; exact h4, ?_⟩
    simp only [PyData.shown, rN]
    exact Nat.le_trans (listText_len _) (by omega)
  | .dct _ _, h => by simp [rK] at h
  | .ins _ _ _, h => by simp [rK] at h
  | .scr _, h => by simp [rK] at h
theorem rs_of : ∀ (ds : List D), rKs ds = true → ∃ ps, toPs ds = some ps ∧ PyData.showableAll ps = true ∧ PyData.hasDictAll ps = false ∧ PyData.depthAll ps ≤ rDs ds ∧ piled (PyData.shownAll ps) ≤ rNs ds
  | [], _ => ⟨[], rfl, rfl, rfl, by simp [PyData.depthAll], by simp [PyData.shownAll, piled]⟩
  | d :: r, h => by
    simp only [rKs, Bool.and_eq_true] at h
    obtain ⟨p, h1, h2, h3, h4, h5⟩ := r_of d h.1
    obtain ⟨ps, g1, g2, g3, g4, g5⟩ := rs_of r h.2
    refine ⟨p :: ps, by simp [toPs, h1, g1], by simp [PyData.showableAll, h2, g2], by simp [PyData.hasDictAll, h3, g3], by simp only [PyData.depthAll, rDs]; omega, ?_⟩
    simp only [PyData.shownAll, rNs, piled_cons]
    omega
end
theorem repr_some {d : D} (h1 : rK d = true) (h2 : rD d ≤ 40) (h3 : rN d ≤ 1000000) : ∃ s, reprD [d] = some (.str s) := by
  obtain ⟨p, g1, g2, g3, g4, g5⟩ := r_of d h1
  refine ⟨p.shown, ?_⟩
  unfold reprD
  simp only [g1]
  rw [if_pos]
  simp only [g2, g3, Bool.true_and, Bool.not_false, Bool.and_true, Bool.and_eq_true, decide_eq_true_eq]
  exact ⟨by omega, by omega⟩
theorem rngL_succ (lo : Int) (n : Nat) : rngL lo (n + 1) = .int lo :: rngL (lo + 1) n := by
  unfold rngL
  rw [List.range_succ_eq_map, List.map_cons, List.map_map]
  congr 1
  · simp
  · apply List.map_congr_left
    intro i _
    show D.int (lo + ((i + 1 : Nat) : Int)) = D.int (lo + 1 + (i : Int))
    rw [show lo + ((i + 1 : Nat) : Int) = lo + 1 + (i : Int) from by omega]
theorem rngL_add (lo : Int) (a b : Nat) : rngL lo (a + b) = rngL lo a ++ rngL (lo + a) b := by
  induction a generalizing lo with
  | zero => simp [rngL]
  | succ a ih =>
    rw [show a + 1 + b = (a + b) + 1 from by omega, rngL_succ, rngL_succ, ih, List.cons_append]
    rw [show lo + 1 + (a : Int) = lo + ((a + 1 : Nat) : Int) from by omega]
@[simp] theorem ixD_l0 {a : D} {l : List D} : ixD (.lst (a :: l)) (.int 0) = some a := by
  show atI (a :: l) 0 = _
  unfold atI; rw [ixN_nn (by omega) (by simp only [List.length_cons]; omega)]; rfl
@[simp] theorem ixD_t0 {a : D} {l : List D} : ixD (.tup (a :: l)) (.int 0) = some a := ixD_l0
@[simp] theorem ixD_l1 {a b : D} {l : List D} : ixD (.lst (a :: b :: l)) (.int 1) = some b := by
  show atI (a :: b :: l) 1 = _
  unfold atI; rw [ixN_nn (by omega) (by simp only [List.length_cons]; omega)]; rfl
@[simp] theorem ixD_t1 {a b : D} {l : List D} : ixD (.tup (a :: b :: l)) (.int 1) = some b := ixD_l1
@[simp] theorem ixD_l2 {a b c : D} {l : List D} : ixD (.lst (a :: b :: c :: l)) (.int 2) = some c := by
  show atI (a :: b :: c :: l) 2 = _
  unfold atI; rw [ixN_nn (by omega) (by simp only [List.length_cons]; omega)]; rfl
@[simp] theorem ixD_t2 {a b c : D} {l : List D} : ixD (.tup (a :: b :: c :: l)) (.int 2) = some c := ixD_l2
@[simp] theorem atI_0 {a : D} {l : List D} : atI (a :: l) 0 = some a := ixD_l0
@[simp] theorem atI_1 {a b : D} {l : List D} : atI (a :: b :: l) 1 = some b := ixD_l1
@[simp] theorem atI_2 {a b c : D} {l : List D} : atI (a :: b :: c :: l) 2 = some c := ixD_l2
@[simp] theorem ixN_0 {n : Nat} : ixN (n + 1) 0 = some 0 := ixN_nn (by omega) (by omega)
@[simp] theorem ixN_1 {n : Nat} : ixN (n + 2) 1 = some 1 := ixN_nn (by omega) (by omega)
@[simp] theorem ixN_2 {n : Nat} : ixN (n + 3) 2 = some 2 := ixN_nn (by omega) (by omega)
theorem powD_10 {j : Int} (h0 : 0 ≤ j) (h : j ≤ 1000) : powD (.int 10) (.int j) = some (.int (10 ^ j.toNat)) := powD_k 4 h0 (by decide) (by decide) (by omega)
theorem powD_2 {i : Int} (h0 : -1606938044258990275541962092341162602522202993782792835301376 < i) (h : i < 1606938044258990275541962092341162602522202993782792835301376) : powD (.int i) (.int 2) = some (.int (i ^ 2)) := powD_k 200 (by decide) (by decide) (by omega) (by decide)
theorem powD_3 {i : Int} (h0 : -1606938044258990275541962092341162602522202993782792835301376 < i) (h : i < 1606938044258990275541962092341162602522202993782792835301376) : powD (.int i) (.int 3) = some (.int (i ^ 3)) := powD_k 200 (by decide) (by decide) (by omega) (by decide)
@[simp] theorem fo_none {r : List (Option Nat)} : List.filter Option.isSome (none :: r) = List.filter Option.isSome r := rfl
@[simp] theorem fo_some {r : List (Option Nat)} {i : Nat} : List.filter Option.isSome (some i :: r) = some i :: List.filter Option.isSome r := rfl
theorem seq_nx {a b : S} {ρ ρ1 : Env} (h : a ρ = .nx ρ1) : seqS a b ρ = b ρ1 := by unfold seqS; rw [h]
theorem seq_rt {a b : S} {ρ ρ1 : Env} {s : Slot} (h : a ρ = .rt s ρ1) : seqS a b ρ = .rt s ρ1 := by unfold seqS; rw [h]
theorem seq_er {a b : S} {ρ ρ1 : Env} {e : Err} (h : a ρ = .er e ρ1) : seqS a b ρ = .er e ρ1 := by unfold seqS; rw [h]
theorem seq_step {a b : S} {ρ ρ1 : Env} {o : Out} (h : a ρ = .nx ρ1) (h2 : b ρ1 = o) : seqS a b ρ = o := (seq_nx h).trans h2
theorem runP_rt {N n : Nat} {m : S} {ds : List D} {s : Slot} {ρ : Env} (hn : ds.length = n) (h : m (startE N ds) = .rt s ρ) : runP N n m ds = .ok s := by
  unfold runP; rw [if_pos hn, h]; rfl
theorem runP_er {N n : Nat} {m : S} {ds : List D} {e : Err} {ρ : Env} (hn : ds.length = n) (h : m (startE N ds) = .er e ρ) : runP N n m ds = .er e := by
  unfold runP; rw [if_pos hn, h]; rfl
theorem runP_nx {N n : Nat} {m : S} {ds : List D} {ρ : Env} (hn : ds.length = n) (h : m (startE N ds) = .nx ρ) : runP N n m ds = .ok (.val .non) := by
  unfold runP; rw [if_pos hn, h]; rfl
end P
/-! The P-layer, 15: slots side by side, assignments to several names. -/
namespace P
open PySem PySem.Spec PyProof.Rows L2

section
variable {K : PySem.W.Frag} {L W : List Addr} {ρ : Env} {σ : L2.St} {H : Hp}
/-- the part on the stack is locked away -/
theorem Rl.split2 {ss : Env} {us : L2.St} (r : Rl K L W (ss ++ ρ) (us ++ σ) H) (hl : us.length = ss.length) : ∃ Ws Wr, Rl K (L ++ Ws) Wr ρ σ H ∧
    ∀ {W' : List Addr} {H' : Hp} {ρ' : Env} {σ' : L2.St}, Stp (L ++ Ws) Wr H W' H' → Rl K (L ++ Ws) W' ρ' σ' H' → Rl K L (Ws ++ W') (ss ++ ρ') (us ++ σ') H' ∧ Stp L W H (Ws ++ W') H' ∧ hide H' (W' ++ (L ++ Ws)) = hide H' ((Ws ++ W') ++ L) := by
  obtain ⟨Ws, Wr, rfl, h1, h2⟩ := r.rel.split hl
  have cg : ∀ (V : List Addr) (G : Hp), hide G (V ++ (L ++ Ws)) = hide G ((Ws ++ V) ++ L) := fun V G => hide_congr fun a => by
    simp only [List.mem_append]
    constructor
    · rintro (h | h | h)
      · exact .inl (.inr h)
      · exact .inr h
      · exact .inl (.inl h)
    · rintro ((h | h) | h)
      · exact .inr (.inr h)
      · exact .inl h
      · exact .inr (.inl h)
  obtain ⟨n1, n2, n3⟩ := List.nodup_append.mp r.nd
  refine ⟨Ws, Wr, ⟨by rw [cg]; exact h2, n2, fun a ha z => ?_, fun a ha => ?_⟩, fun {W' H' ρ' σ'} st q => ?_⟩
  · rcases List.mem_append.mp ha with h | h
    · exact r.dj a h (by simp [z])
    · exact n3 a h a z rfl
  · rcases List.mem_append.mp ha with h | h
    · exact r.lk a h
    · exact h1.there a h
  · have stp : Stp L (Ws ++ Wr) H (Ws ++ W') H' := by
      refine ⟨by rw [← cg, ← cg]; exact st.ex, fun a h => ?_, fun a h => st.lk a (by simp [h])⟩
      rcases List.mem_append.mp h with h | h
      · exact .inl (by simp [h])
      · exact (st.new a h).imp (fun z => by simp [z]) id
    refine ⟨⟨RelE.app (h1.mono stp.ex fun a h => st.lk a (by simp [h])) (by rw [← cg]; exact q.rel), ?_, ?_, fun a h => q.lk a (by simp [h])⟩, stp, cg _ _⟩
    · exact List.nodup_append.mpr ⟨n1, q.nd, fun a ha b hb e => by subst e; exact q.dj a (by simp [ha]) hb⟩
    · intro a ha z
      rcases List.mem_append.mp z with z | z
      · exact r.dj a ha (by simp [z])
      · exact q.dj a (by simp [ha]) z
end
section
variable (K : PySem.W.Frag) (Wx : WX)
def PostB (σ : L2.St) (L W : List Addr) (H : Hp) (Q : List V → Hp → Prop) : Res (List Slot) → Prop
  | .ok ss ρ' => ∀ vs W' H', Stp L W H W' H' → vs.length = ss.length → Rl K L W' (ss ++ ρ') (vs.map some ++ σ) H' → Q vs H'
  | .er e ρ' => ∀ c dd W' H', Stp L W H W' H' → Rl K L W' ρ' σ H' → ErrRep K (hide H' (W' ++ L)) c dd e → Wx c dd σ H'
  | .stuck => False
def tBs (m : M (List Slot)) : TA := fun σ H Q => ∃ ρ L W, Rl K L W ρ σ H ∧ PostB K Wx σ L W H Q (m ρ)
end
def PBs (X : Cx) (Wx : WX) (es : List Expr) (m : M (List Slot)) : Prop := PA X es (tBs X.K Wx m)
@[simp] def nilB : M (List Slot) := fun ρ => .ok [] ρ
@[simp] def consB (ma : M Slot) (mr : M (List Slot)) : M (List Slot) := fun ρ => (ma ρ).bd fun s ρ1 => (mr ρ1).bd fun ss ρ2 => .ok (s :: ss) ρ2
section
variable {X : Cx} {Wx : WX} {J : List Nat}
theorem PostB.step {K : PySem.W.Frag} {σ : L2.St} {L W W1 : List Addr} {H H1 : Hp} {Q : List V → Hp → Prop} (a : Stp L W H W1 H1) : ∀ {r : Res (List Slot)}, PostB K Wx σ L W H Q r → PostB K Wx σ L W1 H1 Q r
  | .ok _ _, h => fun v W' H' st l rl => h v W' H' (a.trans st) l rl
  | .er _ _, h => fun c dd W' H' st rl er => h c dd W' H' (a.trans st) rl er
  | .stuck, h => h
theorem pxb_nil : PBs X Wx [] nilB := PA_imp pa_nil fun σ H Q h => by
  obtain ⟨ρ, L, W, rl, p⟩ := h
  exact p [] W H .refl rfl rl
theorem pxb_cons {e : Expr} {es : List Expr} {ma : M Slot} {mr : M (List Slot)} (ha : PX X Wx e ma) (hr : PBs X Wx es mr) (hs : starEach (e :: es) X.env = (false, eval e X.env) :: starEach es X.env := by rfl) : PBs X Wx (e :: es) (consB ma mr) := by
  refine PA_imp (pa_cons ha hr hs) fun σ H Q h => ?_
  obtain ⟨ρ, L, W, rl, p⟩ := h
  refine bd_S (T := PostB X.K Wx σ L W H Q) rl p fun x s ρ1 W1 H1 st1 rl1 p => ?_
  obtain ⟨Ws, Wr, rlr, jn⟩ := Rl.split2 (ss := [s]) (us := [some x]) rl1 rfl
  refine ⟨ρ1, L ++ Ws, Wr, rlr, ?_⟩
  have p := PostB.step st1 p
  revert p
  cases mr ρ1 with
  | stuck => exact id
  | ok ss ρ2 =>
    intro p vs W' H' st l rl2
    obtain ⟨a, b, _⟩ := jn st rl2
    exact p (x :: vs) _ H' b (by simp [l]) a
  | er e ρ2 =>
    intro p c dd W' H' st rl2 er
    obtain ⟨a, b, c2⟩ := jn st rl2
    obtain ⟨W3, st3, rl3⟩ := Rl.dropTop a
    rw [c2] at er
    exact p c dd W3 H' (b.trans st3) rl3 (er.mono st3.ex)
/-- a, b = e, f -/
@[simp] def parS2 (i j : Nat) (m : M (List Slot)) : S := fun ρ => match m ρ with
  | .ok [s, t] ρ1 => if s.isUnb ∨ t.isUnb then .stuck else .nx ((ρ1.set i s).set j t)
  | .ok _ _ => .stuck
  | .er e ρ1 => .er e ρ1
  | .stuck => .stuck
@[simp] def parS3 (i j k : Nat) (m : M (List Slot)) : S := fun ρ => match m ρ with
  | .ok [s, t, u] ρ1 => if s.isUnb ∨ t.isUnb ∨ u.isUnb then .stuck else .nx (((ρ1.set i s).set j t).set k u)
  | .ok _ _ => .stuck
  | .er e ρ1 => .er e ρ1
  | .stuck => .stuck
theorem ag_set {J : List Nat} {σ σ' : L2.St} {i : Nat} {o : Option V} (h : Ag J σ σ') (hJ : J.contains i = false) : Ag J σ (σ'.set i o) := ⟨by simp [h.1], fun j hj => by
  rw [List.getElem?_set_ne fun z => by subst z; simp [hj] at hJ]
  exact h.2 j hj⟩
theorem pst_par {i j : Nat} {x y : Str} {a b : Expr} {m : M (List Slot)} {px py pt pos : Pos} {kt k2 pt2} (hc : X.calm = true) (hN : X.N.Nodup) (ha : PBs X Wx [a, b] m) (hij : i ≠ j := by decide) (hJ : J.contains i = false := by rfl) (hJ2 : J.contains j = false := by rfl) (hi : X.N[i]? = some x := by rfl) (hj : X.N[j]? = some y := by rfl)
    (hx : X.env.scope.names.lookup x = some .local := by rfl) (hy : X.env.scope.names.lookup y = some .local := by rfl)
    (hw : swappedStores [.Tuple [.Name x px, .Name y py] kt pt] (.Tuple [a, b] k2 pt2) X.env = pure (some [x, y]) := by rfl)
    (hs : swapsWithSole [.Tuple [.Name x px, .Name y py] kt pt] (.Tuple [a, b] k2 pt2) pos.line X.env = pure false := by rfl) :
    PSt X Wx J (.Assign [.Tuple [.Name x px, .Name y py] kt pt] (.Tuple [a, b] k2 pt2) pos) (parS2 i j m) := by
  refine PS_imp (ps_par hc hN hi hj hij hx hy ha hw hs) fun E σ H h => ?_
  obtain ⟨ρ, L, W, rl, p⟩ := h
  refine ⟨ρ, L, W, rl, ?_⟩
  revert p
  show PostS X.K Wx J σ L W H E (parS2 i j m ρ) → _
  unfold parS2
  cases m ρ with
  | stuck => exact id
  | er e ρ' => exact fun p c dd W' H' st r er => p c dd σ W' H' .refl st r er
  | ok ss ρ1 =>
    match ss with
    | [s, t] =>
      dsimp only
      by_cases c : s.isUnb ∨ t.isUnb
      · rw [if_pos c]; exact fun p => p.elim
      rw [if_neg c]
      intro p vs W' H' st l r
      match vs, l with
      | [v, w], _ =>
        obtain ⟨W2, st2, r2⟩ := Rl.store (i + 1) (show Rl X.K L W' (s :: t :: ρ1) (some v :: some w :: σ) H' from r) (fun z => c (.inl (by rw [z]; rfl)))
        rw [List.set_cons_succ, List.set_cons_succ] at r2
        obtain ⟨W3, st3, r3⟩ := Rl.store j r2 (fun z => c (.inr (by rw [z]; rfl)))
        exact ⟨v, w, rfl, p _ W3 H' (ag_set (ag_set .refl hJ) hJ2) ((st.trans st2).trans st3) r3⟩
    | [] => exact fun p => p.elim
    | [_] => exact fun p => p.elim
    | _ :: _ :: _ :: _ => exact fun p => p.elim
theorem pst_par3 {i j l : Nat} {x y z : Str} {a b c : Expr} {m : M (List Slot)} {px py pz pt pos : Pos} {kt k2 pt2} (hc : X.calm = true) (hN : X.N.Nodup) (ha : PBs X Wx [a, b, c] m) (hij : i ≠ j := by decide) (hil : i ≠ l := by decide) (hjl : j ≠ l := by decide) (hJ : J.contains i = false := by rfl) (hJ2 : J.contains j = false := by rfl) (hJ3 : J.contains l = false := by rfl)
    (hi : X.N[i]? = some x := by rfl) (hj : X.N[j]? = some y := by rfl) (hl : X.N[l]? = some z := by rfl)
    (hx : X.env.scope.names.lookup x = some .local := by rfl) (hy : X.env.scope.names.lookup y = some .local := by rfl) (hz : X.env.scope.names.lookup z = some .local := by rfl)
    (hw : swappedStores [.Tuple [.Name x px, .Name y py, .Name z pz] kt pt] (.Tuple [a, b, c] k2 pt2) X.env = pure (some [x, y, z]) := by rfl)
    (hs : swapsWithSole [.Tuple [.Name x px, .Name y py, .Name z pz] kt pt] (.Tuple [a, b, c] k2 pt2) pos.line X.env = pure false := by rfl) :
    PSt X Wx J (.Assign [.Tuple [.Name x px, .Name y py, .Name z pz] kt pt] (.Tuple [a, b, c] k2 pt2) pos) (parS3 i j l m) := by
  refine PS_imp (ps_par3 hc hN hi hj hl hij hil hjl hx hy hz ha hw hs) fun E σ H h => ?_
  obtain ⟨ρ, L, W, rl, p⟩ := h
  refine ⟨ρ, L, W, rl, ?_⟩
  revert p
  show PostS X.K Wx J σ L W H E (parS3 i j l m ρ) → _
  unfold parS3
  cases m ρ with
  | stuck => exact id
  | er e ρ' => exact fun p c dd W' H' st r er => p c dd σ W' H' .refl st r er
  | ok ss ρ1 =>
    match ss with
    | [s, t, u] =>
      dsimp only
      by_cases c : s.isUnb ∨ t.isUnb ∨ u.isUnb
      · rw [if_pos c]; exact fun p => p.elim
      rw [if_neg c]
      intro p vs W' H' st ll r
      match vs, ll with
      | [v, w, q], _ =>
        obtain ⟨W2, st2, r2⟩ := Rl.store (i + 2) (show Rl X.K L W' (s :: t :: u :: ρ1) (some v :: some w :: some q :: σ) H' from r) (fun z => c (.inl (by rw [z]; rfl)))
        rw [List.set_cons_succ, List.set_cons_succ, List.set_cons_succ, List.set_cons_succ] at r2
        obtain ⟨W3, st3, r3⟩ := Rl.store (j + 1) r2 (fun z => c (.inr (.inl (by rw [z]; rfl))))
        rw [List.set_cons_succ, List.set_cons_succ] at r3
        obtain ⟨W4, st4, r4⟩ := Rl.store l r3 (fun z => c (.inr (.inr (by rw [z]; rfl))))
        exact ⟨v, w, q, rfl, p _ W4 H' (ag_set (ag_set (ag_set .refl hJ) hJ2) hJ3) (((st.trans st2).trans st3).trans st4) r4⟩
    | [] => exact fun p => p.elim
    | [_] => exact fun p => p.elim
    | [_, _] => exact fun p => p.elim
    | _ :: _ :: _ :: _ :: _ => exact fun p => p.elim
/-- targets = e, the items of a tuple -/
@[simp] def unpS (b : D → Env → Option Env) (m : M D) : S := fun ρ => match m ρ with
  | .ok d ρ1 => (match b d ρ1 with
    | some ρ2 => .nx ρ2
    | none => .stuck)
  | .er e ρ1 => .er e ρ1
  | .stuck => .stuck
theorem pst_unp {tg e : Expr} {b : D → Env → Option Env} {js : List Nat} {m : M D} {pos : Pos} (he : PD X Wx e m) (hg : PGt X tg b js) (hJ : js.all (fun j => !J.contains j) = true := by rfl) (hs : swapsWithSole [tg] e pos.line X.env = pure false := by rfl) (hw : swappedStores [tg] e X.env = pure none := by rfl)
    (h1 : (assignEach [tg] X.env).map (·.2) = [assign tg X.env] := by rfl) : PSt X Wx J (.Assign [tg] e pos) (unpS b m) := by
  refine PS_imp (ps_asg he hg hs hw h1) fun E σ H h => ?_
  obtain ⟨ρ, L, W, rl, p⟩ := h
  have p : PostS X.K Wx J σ L W H E (Out.of ((m ρ).bd fun d ρ1 => .ok (match b d ρ1 with
      | some ρ2 => .nx ρ2
      | none => .stuck) ρ1)) := by
    revert p; show PostS X.K Wx J σ L W H E (unpS b m ρ) → _; unfold unpS; cases m ρ <;> exact id
  refine bd_D (T := fun r => PostS X.K Wx J σ L W H E (Out.of r)) rl p (fun v d ρ1 W1 H1 st1 rl1 q1 p => ?_) id (fun e ρ' h c dd W' H' st r er => h c dd σ W' H' .refl st r er)
  cases e : b d ρ1 with
  | none => simp only [e] at p; exact p.elim
  | some ρ2 =>
    simp only [e] at p
    exact ⟨ρ1, L, W1, d, rl1, q1, ρ2, e, fun σ' W' st' rl' bt => p σ' W' H1 ⟨bt.1, fun j hj => bt.2 j fun z => by
      have := List.all_eq_true.mp hJ j z
      simp [hj] at this⟩ (st1.trans st') rl'⟩
end
end P
/-! The P-layer, 16: assignments to two names through a tuple (names that a comprehension captures). -/
namespace P
open PySem PySem.Spec PyProof.Rows L2
section
variable {X : Cx} {Wx : WX} {J : List Nat}
theorem pst_parG {i j : Nat} {x y : Str} {a b : Expr} {m : M (List Slot)} {px py pt pos : Pos} {kt k2 pt2} (hc : X.calm = true) (hN : X.N.Nodup) (ha : PBs X Wx [a, b] m) (hij : i ≠ j := by decide) (hJ : J.contains i = false := by rfl) (hJ2 : J.contains j = false := by rfl) (hi : X.N[i]? = some x := by rfl) (hj : X.N[j]? = some y := by rfl)
    (hx : Loc X.env.scope x := by first | exact .inl rfl | exact .inr rfl) (hy : Loc X.env.scope y := by first | exact .inl rfl | exact .inr rfl)
    (hfx : X.fn x = true ∨ X.env.scope.names.lookup x = some .local := by first | exact .inl rfl | exact .inr rfl) (hfy : X.fn y = true ∨ X.env.scope.names.lookup y = some .local := by first | exact .inl rfl | exact .inr rfl)
    (hs : swapsWithSole [.Tuple [.Name x px, .Name y py] kt pt] (.Tuple [a, b] k2 pt2) pos.line X.env = pure false := by rfl)
    (hw : swappedStores [.Tuple [.Name x px, .Name y py] kt pt] (.Tuple [a, b] k2 pt2) X.env = pure none := by rfl)
    (h1 : (assignEach [.Tuple [.Name x px, .Name y py] kt pt] X.env).map (·.2) = [assign (.Tuple [.Name x px, .Name y py] kt pt) X.env] := by rfl)
    (h2 : (assignEach [.Name x px, .Name y py] X.env).map (·.2) = assign (.Name x px) X.env :: (assignEach [.Name y py] X.env).map (·.2) := by rfl)
    (h3 : (assignEach [.Name y py] X.env).map (·.2) = assign (.Name y py) X.env :: (assignEach [] X.env).map (·.2) := by rfl)
    (hn : (assignEach [.Name x px, .Name y py] X.env).length = 2 := by rfl) (hst : (assignEach [.Name x px, .Name y py] X.env).findIdx? (·.1) = none := by rfl) :
    PSt X Wx J (.Assign [.Tuple [.Name x px, .Name y py] kt pt] (.Tuple [a, b] k2 pt2) pos) (parS2 i j m) := by
  refine PS_imp (ps_asg (pe_tup ha) (pg_tup hc (pgs_cons (pg_name hN hi hx hfx) (pgs_cons (pg_name hN hj hy hfy) L2.pgs_nil h3) h2) hn hst) hs hw h1) fun E σ H h => ?_
  obtain ⟨ρ, L, W, rl, p⟩ := h
  refine ⟨ρ, L, W, rl, ?_⟩
  revert p
  show PostS X.K Wx J σ L W H E (parS2 i j m ρ) → _
  unfold parS2
  cases m ρ with
  | stuck => exact id
  | er e ρ' => exact fun p c dd W' H' st r er => p c dd σ W' H' .refl st r er
  | ok ss ρ1 =>
    match ss with
    | [s, t] =>
      dsimp only
      by_cases c : s.isUnb ∨ t.isUnb
      · rw [if_pos c]; exact fun p => p.elim
      rw [if_neg c]
      intro p vs W' H' st l r
      match vs, l with
      | [v, w], _ =>
        refine ⟨big_line (show 2 ≤ 1000000 by decide), fun q hq => ⟨q, [v, w], rfl, .inl (.inl upd_same), rfl, v, [w], rfl, w, [], rfl, rfl, ?_⟩⟩
        have ex : Ex H' (upd H' q (.tup [v, w])) := Ex.new hq
        obtain ⟨W2, st2, r2⟩ := Rl.store (i + 2 - 1) ((show Rl X.K L W' (s :: t :: ρ1) (some v :: some w :: σ) H' from r).ex ex) (fun z => c (.inl (by rw [z]; rfl)))
        rw [show i + 2 - 1 = i + 1 from rfl, List.set_cons_succ, List.set_cons_succ] at r2
        obtain ⟨W3, st3, r3⟩ := Rl.store j r2 (fun z => c (.inr (by rw [z]; rfl)))
        exact p _ W3 _ (ag_set (ag_set .refl hJ) hJ2) ((st.trans (r.stp ex)).trans (st2.trans st3)) r3
    | [] => exact fun p => p.elim
    | [_] => exact fun p => p.elim
    | _ :: _ :: _ :: _ => exact fun p => p.elim
/-- y = [e for ..] -/
theorem pst_setLc {i : Nat} {y : Str} {py : Pos} {elt tg iter : Expr} {ifs : List Expr} {scope : Scope} {pos spos : Pos} {own : List (Str × Nat)} {mi : M (List D)} {b : D → Env → Option Env} {js : List Nat} {t : M Bool} {m : M D} (hc : X.calm = true) (hN : X.N.Nodup) (hi : PIt X Wx tg iter mi) (ok : BlkOk X.N X.env.scope scope own)
    (hg : ∀ (s : Shared) (H : Hp) (C : Addr) (cl : List (Str × Addr)) (fp : List Addr), PGt (X.blk s H scope (compEnvC scope cl C X.env) fp) tg b js)
    (ht : ∀ (s : Shared) (H : Hp) (C : Addr) (cl : List (Str × Addr)) (fp : List Addr), PTss (X.blk s H scope (compEnvC scope cl C X.env) fp) ifs t)
    (he : ∀ (s : Shared) (H : Hp) (C : Addr) (cl : List (Str × Addr)) (fp : List Addr), PD (X.blk s H scope (compEnvC scope cl C X.env) fp) WX0 elt m) (hsw : swapsWith (.ListComp elt [⟨tg, iter, ifs, 0⟩] scope pos) (some (.Name y py)) spos.line X.env = pure true)
    (hJ : J.contains i = false := by rfl) (hy : X.N[i]? = some y := by rfl) (hyl : X.env.scope.names.lookup y = some .local := by rfl)
    (hj : js.all (fun j => decide (j ∈ own.map (·.2))) = true := by decide) (hs : ∀ x, foldedSetIterable iter X.env x = pure x := by intro _; rfl) :
    PSt X Wx J (.Assign [.Name y py] (.ListComp elt [⟨tg, iter, ifs, 0⟩] scope pos) spos) (setS i (lcM (own.map (·.2)) mi b t m)) := by
  refine PS_imp (ps_setLc (own := own) (g := tG X.K b js) (tt := tB' X.K WX0 t) (te := tE X.K WX0 (vl m)) hc hN hy hyl hsw hi ok (fun s H C cl fp => hg s H C cl fp) (fun s H C cl fp => ht s H C cl fp) (fun s H C cl fp => he s H C cl fp) hs) fun E σ H h => ?_
  refine lc_use (Wx := Wx) (fun j hm => of_decide_eq_true (List.all_eq_true.mp hj j hm)) ?_
  obtain ⟨ρ, L, W, rl, p⟩ := h
  rw [setS_eq] at p
  refine bd_S (T := fun r => PostS X.K Wx J σ L W H E (Out.of r)) rl p (fun v s ρ1 W1 H1 st1 rl1 p => ?_) id (fun e ρ' h c dd W' H' st r er => h c dd σ W' H' .refl st r er)
  have hs : s ≠ .unb := fun z => by subst z; exact p.elim
  obtain ⟨W2, st2, rl2⟩ := rl1.store i hs
  have p : PostS X.K Wx J σ L W H E (.nx (ρ1.set i s)) := by cases s <;> first | exact p | exact absurd rfl hs
  exact p _ W2 H1 ⟨by simp, fun j hj => List.getElem?_set_ne fun z => by subst z; simp [hj] at hJ⟩ (st1.trans st2) rl2
end
end P
/-! The P-layer, 17: equality of plain data. -/
namespace P
open PySem PySem.Spec PyProof.Rows L2

/-! ### plain data: no bools, no objects -/
mutual
def pl : D → Bool
  | .non | .int _ => true
  | .str x => PyData.strOk x
  | .tup ds | .lst ds => pls ds
  | _ => false
def pls : List D → Bool
  | [] => true
  | d :: r => pl d && pls r
end
mutual
theorem pl_of : ∀ (d : D), pl d = true → ∃ p, toP d = some p ∧ p.canLay0 = true ∧ p.depth = rD d
  | .non, _ => ⟨_, rfl, rfl, by simp [PyData.depth, rD]⟩
  | .int i, _ => ⟨_, rfl, rfl, by simp [PyData.depth, rD]⟩
  | .str x, h => ⟨_, rfl, by simpa [pl, PyData.canLay0] using h, by simp [PyData.depth, rD]⟩
  | .tup ds, h => by
    obtain ⟨ps, h1, h2, h3⟩ := pls_of ds (by simpa [pl] using h)
    exact ⟨.tuple ps, by simp [toP, h1], by simpa [PyData.canLay0] using h2, by simp [PyData.depth, rD, h3]⟩
  | .lst ds, h => by
    obtain ⟨ps, h1, h2, h3⟩ := pls_of ds (by simpa [pl] using h)
    exact ⟨.list ps, by simp [toP, h1], by simpa [PyData.canLay0] using h2, by simp [PyData.depth, rD, h3]⟩
  | .bl _, h => by simp [pl] at h
  | .dct _ _, h => by simp [pl] at h
  | .ins _ _ _, h => by simp [pl] at h
  | .scr _, h => by simp [pl] at h
theorem pls_of : ∀ (ds : List D), pls ds = true → ∃ ps, toPs ds = some ps ∧ PyData.canLayAll0 ps = true ∧ PyData.depthAll ps = rDs ds
  | [], _ => ⟨[], rfl, rfl, by simp [PyData.depthAll, rDs]⟩
  | d :: r, h => by
    simp only [pls, Bool.and_eq_true] at h
    obtain ⟨p, h1, h2, h3⟩ := pl_of d h.1
    obtain ⟨ps, g1, g2, g3⟩ := pls_of r h.2
    exact ⟨p :: ps, by simp [toPs, h1, g1], by simp [PyData.canLayAll0, h2, g2], by simp [PyData.depthAll, rDs, h3, g3]⟩
end
mutual
theorem eqv_iff : ∀ (d e : D) {p q : PyData}, pl d = true → pl e = true → toP d = some p → toP e = some q → (PyData.eqv p q = true ↔ d = e)
  | .non, e, p, q, h, g, hp, hq => by
    cases hp
    cases e with
    | non => cases hq; simp [PyData.eqv]
    | int j => cases hq; simp [PyData.eqv]
    | str y => cases hq; simp [PyData.eqv]
    | tup es => simp only [toP, Option.map_eq_some_iff] at hq; obtain ⟨qs, _, rfl⟩ := hq; simp [PyData.eqv]
    | lst es => simp only [toP, Option.map_eq_some_iff] at hq; obtain ⟨qs, _, rfl⟩ := hq; simp [PyData.eqv]
    | bl _ => simp [pl] at g
    | dct _ _ => simp [pl] at g
    | ins _ _ _ => simp [pl] at g
    | scr _ => simp [pl] at g
  | .int i, e, p, q, h, g, hp, hq => by
    cases hp
    cases e with
    | non => cases hq; simp [PyData.eqv]
    | int j => cases hq; simp [PyData.eqv]
    | str y => cases hq; simp [PyData.eqv]
    | tup es => simp only [toP, Option.map_eq_some_iff] at hq; obtain ⟨qs, _, rfl⟩ := hq; simp [PyData.eqv]
    | lst es => simp only [toP, Option.map_eq_some_iff] at hq; obtain ⟨qs, _, rfl⟩ := hq; simp [PyData.eqv]
    | bl _ => simp [pl] at g
    | dct _ _ => simp [pl] at g
    | ins _ _ _ => simp [pl] at g
    | scr _ => simp [pl] at g
  | .str x, e, p, q, h, g, hp, hq => by
    cases hp
    cases e with
    | non => cases hq; simp [PyData.eqv]
    | int j => cases hq; simp [PyData.eqv]
    | str y => cases hq; simp [PyData.eqv]
    | tup es => simp only [toP, Option.map_eq_some_iff] at hq; obtain ⟨qs, _, rfl⟩ := hq; simp [PyData.eqv]
    | lst es => simp only [toP, Option.map_eq_some_iff] at hq; obtain ⟨qs, _, rfl⟩ := hq; simp [PyData.eqv]
    | bl _ => simp [pl] at g
    | dct _ _ => simp [pl] at g
    | ins _ _ _ => simp [pl] at g
    | scr _ => simp [pl] at g
  | .tup ds, e, p, q, h, g, hp, hq => by
    simp only [toP, Option.map_eq_some_iff] at hp
    obtain ⟨ps, hp, rfl⟩ := hp
    cases e with
    | non => cases hq; simp [PyData.eqv]
    | int j => cases hq; simp [PyData.eqv]
    | str y => cases hq; simp [PyData.eqv]
    | tup es =>
      simp only [toP, Option.map_eq_some_iff] at hq
      obtain ⟨qs, hq, rfl⟩ := hq
      have := eqvs_iff ds es (by simpa [pl] using h) (by simpa [pl] using g) hp hq
      simp only [PyData.eqv, D.tup.injEq]
      exact this
    | lst es => simp only [toP, Option.map_eq_some_iff] at hq; obtain ⟨qs, _, rfl⟩ := hq; simp [PyData.eqv]
    | bl _ => simp [pl] at g
    | dct _ _ => simp [pl] at g
    | ins _ _ _ => simp [pl] at g
    | scr _ => simp [pl] at g
  | .lst ds, e, p, q, h, g, hp, hq => by
    simp only [toP, Option.map_eq_some_iff] at hp
    obtain ⟨ps, hp, rfl⟩ := hp
    cases e with
    | non => cases hq; simp [PyData.eqv]
    | int j => cases hq; simp [PyData.eqv]
    | str y => cases hq; simp [PyData.eqv]
    | lst es =>
      simp only [toP, Option.map_eq_some_iff] at hq
      obtain ⟨qs, hq, rfl⟩ := hq
      have := eqvs_iff ds es (by simpa [pl] using h) (by simpa [pl] using g) hp hq
      simp only [PyData.eqv, D.lst.injEq]
      exact this
    | tup es => simp only [toP, Option.map_eq_some_iff] at hq; obtain ⟨qs, _, rfl⟩ := hq; simp [PyData.eqv]
    | bl _ => simp [pl] at g
    | dct _ _ => simp [pl] at g
    | ins _ _ _ => simp [pl] at g
    | scr _ => simp [pl] at g
  | .bl _, _, _, _, h, _, _, _ => by simp [pl] at h
  | .dct _ _, _, _, _, h, _, _, _ => by simp [pl] at h
  | .ins _ _ _, _, _, _, h, _, _, _ => by simp [pl] at h
  | .scr _, _, _, _, h, _, _, _ => by simp [pl] at h
theorem eqvs_iff : ∀ (ds es : List D) {ps qs : List PyData}, pls ds = true → pls es = true → toPs ds = some ps → toPs es = some qs → (PyData.eqvAll ps qs = true ↔ ds = es)
  | [], [], _, _, _, _, hp, hq => by cases hp; cases hq; simp [PyData.eqvAll]
  | [], e :: es, _, _, _, g, hp, hq => by
    cases hp
    obtain ⟨qs, h1, _⟩ := pls_of (e :: es) g
    rw [h1] at hq; cases hq
    simp only [toPs] at h1
    split at h1
    · cases h1; simp [PyData.eqvAll]
    · cases h1
  | d :: ds, [], _, _, h, _, hp, hq => by
    cases hq
    simp only [toPs] at hp
    split at hp
    · cases hp; simp [PyData.eqvAll]
    · cases hp
  | d :: ds, e :: es, _, _, h, g, hp, hq => by
    simp only [pls, Bool.and_eq_true] at h g
    simp only [toPs] at hp hq
    split at hp
    · rename_i p ps p1 p2
      cases hp
      split at hq
      · rename_i q qs q1 q2
        cases hq
        have a := eqv_iff d e h.1 g.1 p1 q1
        have b := eqvs_iff ds es h.2 g.2 p2 q2
        simp only [PyData.eqvAll, Bool.and_eq_true, List.cons.injEq, a, b]
      · cases hq
    · cases hp
end
open Classical in
theorem eqD_pl {d e : D} (h : pl d = true) (g : pl e = true) (h2 : rD d ≤ 64) (g2 : rD e ≤ 64) : eqD d e = some (.bl (decide (d = e))) := by
  obtain ⟨p, p1, p2, p3⟩ := pl_of d h
  obtain ⟨q, q1, q2, q3⟩ := pl_of e g
  have key : eqP d e = some (.bl (decide (d = e))) := by
    unfold eqP
    simp only [p1, q1]
    rw [if_pos (by simp only [SeqAt.shaped, p2, q2, p3, q3, Bool.true_and, Bool.and_eq_true, decide_eq_true_eq]; exact ⟨h2, g2⟩)]
    rw [show PyData.eqv p q = decide (d = e) from by
      rw [Bool.eq_iff_iff, decide_eq_true_eq]; exact eqv_iff d e h g p1 q1]
  unfold eqD
  cases c : eqS d e with
  | none => exact key
  | some r =>
    show some r = _
    cases d <;> cases e <;> simp only [eqS, Option.some.injEq] at c <;> try (cases c)
    all_goals first | (simp) | (simp [pl] at h)
open Classical in
theorem neD_pl {d e : D} (h : pl d = true) (g : pl e = true) (h2 : rD d ≤ 64) (g2 : rD e ≤ 64) : neD d e = some (.bl (!decide (d = e))) := by
  obtain ⟨p, p1, p2, p3⟩ := pl_of d h
  obtain ⟨q, q1, q2, q3⟩ := pl_of e g
  have key : neP d e = some (.bl (!decide (d = e))) := by
    unfold neP
    simp only [p1, q1]
    rw [if_pos (by simp only [SeqAt.shaped, p2, q2, p3, q3, Bool.true_and, Bool.and_eq_true, decide_eq_true_eq]; exact ⟨h2, g2⟩)]
    rw [show PyData.eqv p q = decide (d = e) from by
      rw [Bool.eq_iff_iff, decide_eq_true_eq]; exact eqv_iff d e h g p1 q1]
  unfold neD
  cases c : neS d e with
  | none => exact key
  | some r =>
    show some r = _
    cases d <;> cases e <;> simp only [neS, Option.some.injEq] at c <;> try (cases c)
    all_goals first | (simp) | (simp [pl] at h)
theorem pls_append : ∀ (a b : List D), pls (a ++ b) = (pls a && pls b)
  | [], b => by simp [pls]
  | d :: a, b => by simp [pls, pls_append a b, Bool.and_assoc]
theorem pls_all : ∀ {ds : List D}, (∀ d ∈ ds, pl d = true) → pls ds = true
  | [], _ => rfl
  | d :: r, h => by simp only [pls, Bool.and_eq_true]; exact ⟨h d (by simp), pls_all fun x hx => h x (by simp [hx])⟩
@[simp] theorem pls_ints (ns : List Int) : pls (ns.map D.int) = true := pls_all fun d h => by
  obtain ⟨n, _, rfl⟩ := List.mem_map.mp h; rfl
theorem rDs_le {k : Nat} : ∀ {ds : List D}, (∀ d ∈ ds, rD d ≤ k) → rDs ds ≤ k
  | [], _ => by simp [rDs]
  | d :: r, h => by
    simp only [rDs]
    have := h d (by simp)
    have := rDs_le (k := k) (ds := r) fun x hx => h x (by simp [hx])
    omega
@[simp] theorem rDs_ints (ns : List Int) : rDs (ns.map D.int) = 0 := Nat.le_zero.mp (rDs_le fun d h => by
  obtain ⟨n, _, rfl⟩ := List.mem_map.mp h; simp [rD])
@[simp] theorem fz_ownf {α : Type} {f : α → D} {l : List α} : (Slot.ownL (l.map (Slot.val ∘ f))).fz = some (.lst (l.map f)) := by rw [← List.map_map]; exact fz_own
@[simp] theorem fzs_f {α : Type} {f : α → D} {l : List α} : fzs (l.map (Slot.val ∘ f)) = some (l.map f) := by rw [← List.map_map]; exact fzs_map
@[simp] theorem valsOf_f {α : Type} {f : α → D} {l : List α} : valsOf (l.map (Slot.val ∘ f)) = some (l.map f) := by rw [← List.map_map]; exact valsOf_map _
theorem isEmpty_map' {α β : Type} {f : α → β} {l : List α} : (l.map f).isEmpty = l.isEmpty := by cases l <;> rfl
end P
namespace Lw
open PySem PySem.Spec PyProof.Rows L2 P
def top (i : Nat) : Stmt := PySem.Challenge.pw_checkdigits_k28_longest_by_all_weights.main.body.getD i (.Pass ⟨0, 0, 0, 0⟩)
def CS : List Str := []
def fuel_law_best_1 : Nat := 100000
abbrev t_p_is_integer : Stmt := top 7
def m_p_is_integer : S := (seqS (ifS (orB (notB (tst (isiM (isiT CS "int") (var 0)))) (tst (isiM (isiT CS "bool") (var 0)))) (retS (vl (cst (.bl false)))) nop) (retS (vl (andV (orV (bop isD (var 1) (cst .non)) (bop leD (var 1) (var 0))) (orV (bop isD (var 2) (cst .non)) (bop leD (var 0) (var 2)))))))
def fr_p_is_integer : List D → FR := runP 3 3 m_p_is_integer
abbrev t_p_require_base : Stmt := top 8
def m_p_require_base : S := (ifS (notB (tst (fzM (callM fr_p_is_integer 3 0 (fun ds _ => ds) (consA (var 0) (consA (cst (.int 2)) (consA (cst (.int 36)) nilA))) nilA)))) (raiseS "InvalidBase") nop)
def fr_p_require_base : List D → FR := runP 1 1 m_p_require_base
abbrev t_p_require_modulus : Stmt := top 9
def m_p_require_modulus : S := (ifS (notB (tst (fzM (callM fr_p_is_integer 3 0 (fun ds _ => ds) (consA (var 0) (consA (cst (.int 2)) (consA (cst (.int 200)) nilA))) nilA)))) (raiseS "InvalidModulus") nop)
def fr_p_require_modulus : List D → FR := runP 1 1 m_p_require_modulus
abbrev t_p_divisor_of : Stmt := top 11
def lt_p_divisor_of_1 : M Bool := (andB (tst (bop eqD (bop modD (var 1) (var 2)) (cst (.int 0)))) (tst (bop ltD (bop fdivD (var 1) (var 2)) (var 0))))
def lm_p_divisor_of_1 : M D := (var 2)
def m_p_divisor_of : S := (retS (vl (bop ixD (fzM (lcM [2] (iterA rng2 (consA (cst (.int 1)) (consA (bop addD (var 1) (cst (.int 1))) nilA))) (bName 2) lt_p_divisor_of_1 lm_p_divisor_of_1)) (cst (.int 0)))))
def fr_p_divisor_of : List D → FR := runP 3 2 m_p_divisor_of
abbrev t_p_most_places : Stmt := top 12
def m_p_most_places : S := (seqS (setS 3 (vl (fzM (callM fr_p_divisor_of 2 0 (fun ds _ => ds) (consA (var 0) (consA (var 1) nilA)) nilA)))) (retS (vl (cond (tst (var 2)) (bop fdivD (var 3) (cst (.int 2))) (bop subD (var 3) (cst (.int 1)))))))
def fr_p_most_places : List D → FR := runP 4 3 m_p_most_places
abbrev t_p_longest : Stmt := top 13
def m_p_longest : S := (seqS (dropS (callM fr_p_require_base 1 0 (fun ds _ => ds) (consA (var 0) nilA) nilA)) (seqS (dropS (callM fr_p_require_modulus 1 0 (fun ds _ => ds) (consA (var 1) nilA) nilA)) (retS (callM fr_p_most_places 3 0 (fun ds _ => ds) (consA (var 0) (consA (var 1) (consA (var 2) nilA))) nilA))))
def fr_p_longest : List D → FR := runP 3 3 m_p_longest
abbrev t_law_cup : Stmt := top 15
def m_law_cup : S := (seqS (setS 2 (vl (cond (tst (bop ltD (var 1) (callB lenD (consA (var 0) nilA)))) (bop ixD (var 0) (var 1)) (cst (.int 0))))) (retS (lstM (consA (callB max2D (consA (cst (.int 0)) (consA (bop subD (callB absD (consA (var 2) nilA)) (bop powD (cst (.int 10)) (cst (.int 18)))) nilA))) (consA (bop modD (bop addD (bop addD (bop mulD (var 2) (cst (.int 71))) (bop mulD (cst (.int 13)) (var 1))) (cst (.int 3))) (bop addD (bop powD (cst (.int 10)) (cst (.int 37))) (cst (.int 43)))) (consA (cst (.int 0)) nilA))))))
def fr_law_cup : List D → FR := runP 3 2 m_law_cup
abbrev t_law_sip : Stmt := top 16
def m_law_sip : S := (seqS (ifS (tst (bop gtD (ixO 0 (cst (.int 0))) (cst (.int 0)))) (seqS (setS 2 (vl (bop modD (ixO 0 (cst (.int 0))) (var 1)))) (seqS (setIxS 0 (cst (.int 0)) (bop fdivD (ixO 0 (cst (.int 0))) (var 1))) (retS (vl (var 2))))) nop) (seqS (setIxS 0 (cst (.int 2)) (bop addD (ixO 0 (cst (.int 2))) (cst (.int 1)))) (seqS (setS 3 (vl (bop modD (bop powD (bop addD (ixO 0 (cst (.int 1))) (bop mulD (cst (.int 573259391)) (ixO 0 (cst (.int 2))))) (cst (.int 3))) (bop addD (bop powD (cst (.int 10)) (cst (.int 40))) (cst (.int 121)))))) (seqS (setS 3 (vl (bop modD (bop powD (bop addD (var 3) (bop mulD (cst (.int 433494437)) (ixO 0 (cst (.int 2))))) (cst (.int 2))) (bop addD (bop powD (cst (.int 10)) (cst (.int 39))) (cst (.int 3)))))) (retS (vl (bop modD (bop fdivD (var 3) (bop powD (cst (.int 10)) (cst (.int 5)))) (var 1))))))))
def fm_law_sip : List Slot → FM := runM 4 [true, false] m_law_sip
abbrev t_law_weak : Stmt := top 17
def lt_law_weak_1 : M Bool := (tst (bop eqD (bop modD (bop mulD (var 0) (var 3)) (var 2)) (cst (.int 0))))
def lm_law_weak_1 : M D := (var 3)
def m_law_weak : S := (retS (vl (bop neD (fzM (lcM [3] (iterA rng2 (consA (cst (.int 1)) (consA (var 1) nilA))) (bName 3) lt_law_weak_1 lm_law_weak_1)) (fzM (lstM nilA)))))
def fr_law_weak : List D → FR := runP 4 3 m_law_weak
abbrev t_law_longer : Stmt := top 18
def lt_law_longer_1 : M Bool := (orB (tst (bop ixD (var 1) (bop subD (var 6) (var 8)))) (andB (tst (var 2)) (tst (bop ixD (var 1) (bop modD (bop addD (var 6) (var 8)) (var 4))))))
def lm_law_longer_1 : M D := (var 8)
def fb_law_longer_1 : S := (seqS (setS 7 (lcM [8] (iterM itL (var 5)) (bName 8) lt_law_longer_1 lm_law_longer_1)) (frzS 7 (ifS (andB (tst (bop eqD (var 7) (fzM (lstM nilA)))) (notB (tst (bop ixD (var 1) (var 6))))) (dropS (vl (appM 3 (bop addD (var 5) (fzM (lstM (consA (var 6) nilA))))))) nop)))
def fb_law_longer_2 : S := (forS (iterA rng2 (consA (cond (tst (bop neD (var 5) (fzM (lstM nilA)))) (bop addD (bop ixD (var 5) (uop negD (cst (.int 1)))) (cst (.int 1))) (cst (.int 0))) (consA (var 4) nilA))) (bName 6) fb_law_longer_1)
def m_law_longer : S := (seqS (parS2 3 4 (consB (lstM nilA) (consB (vl (callB lenD (consA (var 1) nilA))) nilB))) (seqS (forS (iterM itL (var 0)) (bName 5) fb_law_longer_2) (retS (mvM 3))))
def fr_law_longer : List D → FR := runP 9 3 m_law_longer
abbrev t_law_best : Stmt := top 19
def lm_law_best_1 : M D := (fzM (callM fr_law_weak 3 0 (fun ds _ => ds) (consA (var 6) (consA (var 1) (consA (var 0) nilA))) nilA))
def wc_law_best_1 : M Bool := (tst (bop neD (var 5) (fzM (lstM nilA))))
def wb_law_best_1 : S := (parS2 4 5 (consB (vl (bop addD (var 4) (cst (.int 1)))) (consB (vl (fzM (callM fr_law_longer 3 0 (fun ds _ => ds) (consA (var 5) (consA (var 3) (consA (var 2) nilA))) nilA))) nilB)))
def m_law_best : S := (seqS (setS 3 (lcM [6] (iterA rng1 (consA (var 0) nilA)) (bName 6) yesM lm_law_best_1)) (frzS 3 (seqS (parS2 4 5 (consB (vl (cst (.int 0))) (consB (vl (fzM (callM fr_law_longer 3 0 (fun ds _ => ds) (consA (fzM (lstM (consA (fzM (lstM nilA)) nilA))) (consA (var 3) (consA (var 2) nilA))) nilA))) nilB))) (seqS (whileS wc_law_best_1 wb_law_best_1 fuel_law_best_1) (retS (vl (var 4)))))))
def fr_law_best : List D → FR := runP 7 3 m_law_best
abbrev t_p_law : Stmt := top 20
def fb_p_law_1 : S := (seqS (setS 3 (vl (fzM (lstM (consA (fzM (callM fr_law_best 3 0 (fun ds _ => ds) (consA (var 2) (consA (var 1) (consA (cst (.bl false)) nilA))) nilA)) (consA (fzM (callM fr_law_best 3 0 (fun ds _ => ds) (consA (var 2) (consA (var 1) (consA (cst (.bl true)) nilA))) nilA)) nilA)))))) (ifS (tst (bop neD (callB reprD (consA (fzM (lstM (consA (fzM (callM fr_p_longest 2 0 (fun ds es => pick [0, 1, 2] (ds ++ es ++ [.bl false])) (consA (var 1) (consA (var 2) nilA)) nilA)) (consA (fzM (callM fr_p_longest 2 1 (fun ds es => pick [0, 1, 2] (ds ++ es)) (consA (var 1) (consA (var 2) nilA)) (consA (cst (.bl true)) nilA))) nilA)))) nilA)) (callB reprD (consA (var 3) nilA)))) (retS (vl (cst (.bl false)))) nop))
def fb_p_law_2 : S := (forS (iterA rng2 (consA (cst (.int 2)) (consA (cst (.int 10)) nilA))) (bName 2) fb_p_law_1)
def fb_p_law_3 : S := (seqS (setS 5 (callM fr_law_cup 2 0 (fun ds _ => ds) (consA (var 0) (consA (var 4) nilA)) nilA)) (seqS (parS2 1 2 (consB (vl (bop addD (cst (.int 6)) (fzM (callMM fm_law_sip [some 5, none] (ownA 5 (consA (cst (.int 9)) nilA)))))) (consB (vl (bop addD (cst (.int 8)) (fzM (callMM fm_law_sip [some 5, none] (ownA 5 (consA (cst (.int 6)) nilA)))))) nilB))) (seqS (ifS (tst (bop neD (fzM (callM fr_p_longest 2 0 (fun ds es => pick [0, 1, 2] (ds ++ es ++ [.bl false])) (consA (var 1) (consA (var 2) nilA)) nilA)) (fzM (callM fr_law_best 3 0 (fun ds _ => ds) (consA (var 2) (consA (var 1) (consA (cst (.bl false)) nilA))) nilA)))) (retS (vl (cst (.bl false)))) nop) (ifS (tst (bop neD (fzM (callM fr_p_longest 2 1 (fun ds es => pick [0, 1, 2] (ds ++ es)) (consA (var 1) (consA (var 2) nilA)) (consA (cst (.bl true)) nilA))) (fzM (callM fr_law_best 3 0 (fun ds _ => ds) (consA (var 2) (consA (var 1) (consA (cst (.bl true)) nilA))) nilA)))) (retS (vl (cst (.bl false)))) nop))))
def m_p_law : S := (seqS (forS (iterA rng2 (consA (cst (.int 2)) (consA (cst (.int 8)) nilA))) (bName 1) fb_p_law_2) (seqS (forS (iterA rng1 (consA (callB max2D (consA (cst (.int 1)) (consA (callB min2D (consA (cst (.int 2)) (consA (callB lenD (consA (var 0) nilA)) nilA))) nilA))) nilA)) (bName 4) fb_p_law_3) (retS (vl (cst (.bl true))))))
def fr_p_law : List D → FR := runP 6 1 m_p_law
abbrev Fun (K : PySem.W.Frag) (x : Str) (st : Stmt) (dvs : List V) (kws : List (Str × V)) (fd : FuncData) : Prop := FunD K x x (defArgs st) (defBody st) (defScope st) dvs kws (He.ga K x) fd
structure Ft (K : PySem.W.Frag) (mg : Str → Option Value) : Prop where
  cs : ∀ c ∈ CS, ClsF K c
  g_p_is_integer : mg "is_integer" = some (.ref (He.ga K "is_integer"))
  d_p_is_integer : ∃ fd, Fun K "is_integer" t_p_is_integer [] [] fd
  g_p_require_base : mg "require_base" = some (.ref (He.ga K "require_base"))
  d_p_require_base : ∃ fd, Fun K "require_base" t_p_require_base [] [] fd
  g_p_require_modulus : mg "require_modulus" = some (.ref (He.ga K "require_modulus"))
  d_p_require_modulus : ∃ fd, Fun K "require_modulus" t_p_require_modulus [] [] fd
  g_p_divisor_of : mg "divisor_of" = some (.ref (He.ga K "divisor_of"))
  d_p_divisor_of : ∃ fd, Fun K "divisor_of" t_p_divisor_of [] [] fd
  g_p_most_places : mg "most_places" = some (.ref (He.ga K "most_places"))
  d_p_most_places : ∃ fd, Fun K "most_places" t_p_most_places [] [] fd
  g_p_longest : mg "longest" = some (.ref (He.ga K "longest"))
  d_p_longest : ∃ fd, Fun K "longest" t_p_longest [] [("twins", .bl false)] fd
  g_law_cup : mg "_law_cup" = some (.ref (He.ga K "_law_cup"))
  d_law_cup : ∃ fd, Fun K "_law_cup" t_law_cup [] [] fd
  g_law_sip : mg "_law_sip" = some (.ref (He.ga K "_law_sip"))
  d_law_sip : ∃ fd, Fun K "_law_sip" t_law_sip [] [] fd
  g_law_weak : mg "_law_weak" = some (.ref (He.ga K "_law_weak"))
  d_law_weak : ∃ fd, Fun K "_law_weak" t_law_weak [] [] fd
  g_law_longer : mg "_law_longer" = some (.ref (He.ga K "_law_longer"))
  d_law_longer : ∃ fd, Fun K "_law_longer" t_law_longer [] [] fd
  g_law_best : mg "_law_best" = some (.ref (He.ga K "_law_best"))
  d_law_best : ∃ fd, Fun K "_law_best" t_law_best [] [] fd
  g_p_law : mg "law" = some (.ref (He.ga K "law"))
  d_p_law : ∃ fd, Fun K "law" t_p_law [] [] fd
  g_p_InvalidBase : mg "InvalidBase" = some (.ref (He.ga K "InvalidBase"))
  e_InvalidBase : ExcF K "InvalidBase"
  g_p_InvalidModulus : mg "InvalidModulus" = some (.ref (He.ga K "InvalidModulus"))
  e_InvalidModulus : ExcF K "InvalidModulus"
  n_abs : mg "abs" = none
  n_bool : mg "bool" = none
  n_int : mg "int" = none
  n_isinstance : mg "isinstance" = none
  n_len : mg "len" = none
  n_max : mg "max" = none
  n_min : mg "min" = none
  n_range : mg "range" = none
  n_repr : mg "repr" = none
  i_GREATEST_BASE : ∃ t, mg "GREATEST_BASE" = some (.int 36 t)
  i_GREATEST_MODULUS : ∃ t, mg "GREATEST_MODULUS" = some (.int 200 t)
section
variable {K : PySem.W.Frag} {fd : FuncData}
theorem kb_p_is_integer_3 (Fd : Fun K "is_integer" t_p_is_integer [] [] fd) : KBd K fd ["value", "low", "high"] 3 [] (fun ds _ => ds) :=
  kbd_pos Fd (fun _ _ _ _ _ _ us hl => match us, hl with | [_, _, _], _ => rfl)
theorem kb_p_divisor_of_2 (Fd : Fun K "divisor_of" t_p_divisor_of [] [] fd) : KBd K fd ["base", "modulus"] 2 [] (fun ds _ => ds) :=
  kbd_pos Fd (fun _ _ _ _ _ _ us hl => match us, hl with | [_, _], _ => rfl)
theorem kb_p_require_base_1 (Fd : Fun K "require_base" t_p_require_base [] [] fd) : KBd K fd ["value"] 1 [] (fun ds _ => ds) :=
  kbd_pos Fd (fun _ _ _ _ _ _ us hl => match us, hl with | [_], _ => rfl)
theorem kb_p_require_modulus_1 (Fd : Fun K "require_modulus" t_p_require_modulus [] [] fd) : KBd K fd ["value"] 1 [] (fun ds _ => ds) :=
  kbd_pos Fd (fun _ _ _ _ _ _ us hl => match us, hl with | [_], _ => rfl)
theorem kb_p_most_places_3 (Fd : Fun K "most_places" t_p_most_places [] [] fd) : KBd K fd ["base", "modulus", "twins"] 3 [] (fun ds _ => ds) :=
  kbd_pos Fd (fun _ _ _ _ _ _ us hl => match us, hl with | [_, _, _], _ => rfl)
theorem kb_law_weak_3 (Fd : Fun K "_law_weak" t_law_weak [] [] fd) : KBd K fd ["load", "size", "divisor"] 3 [] (fun ds _ => ds) :=
  kbd_pos Fd (fun _ _ _ _ _ _ us hl => match us, hl with | [_, _, _], _ => rfl)
theorem kb_law_longer_3 (Fd : Fun K "_law_longer" t_law_longer [] [] fd) : KBd K fd ["rows", "faint", "both"] 3 [] (fun ds _ => ds) :=
  kbd_pos Fd (fun _ _ _ _ _ _ us hl => match us, hl with | [_, _, _], _ => rfl)
theorem kb_law_best_3 (Fd : Fun K "_law_best" t_law_best [] [] fd) : KBd K fd ["divisor", "size", "both"] 3 [] (fun ds _ => ds) :=
  kbd_pos Fd (fun _ _ _ _ _ _ us hl => match us, hl with | [_, _, _], _ => rfl)
theorem kb_p_longest_2_twins (Fd : Fun K "longest" t_p_longest [] [("twins", .bl false)] fd) : KBd K fd ["base", "modulus", "twins"] 2 ["twins"] (fun ds es => pick [0, 1, 2] (ds ++ es)) :=
  kbd_kw Fd 2 ["twins"] [0, 1, 2] (fun _ _ _ _ _ _ us ws h1 h2 => match us, h1, ws, h2 with | [_, _], _, [_], _ => rfl)
theorem kb_p_longest_2 (Fd : Fun K "longest" t_p_longest [] [("twins", .bl false)] fd) : KBd K fd ["base", "modulus", "twins"] 2 [] (fun ds es => pick [0, 1, 2] (ds ++ es ++ [.bl false])) :=
  kbd_ko Fd 2 [] [("twins", .bl false)] [.bl false] [0, 1, 2] (by decide) (by decide) (fun _ => .cons (.bl _) (.nil)) (fun _ _ _ _ _ _ us mv ws h1 h2 h3 => match us, h1, mv, h2, ws, h3 with | [_, _], _, [_], _, [], _ => ⟨_, _, _, _, _, _, rfl, rfl, rfl⟩)
theorem kb_law_cup_2 (Fd : Fun K "_law_cup" t_law_cup [] [] fd) : KBd K fd ["script", "k"] 2 [] (fun ds _ => ds) :=
  kbd_pos Fd (fun _ _ _ _ _ _ us hl => match us, hl with | [_, _], _ => rfl)
theorem bt_law_sip (Fd : Fun K "_law_sip" t_law_sip [] [] fd) : Binds K fd ["cup", "many"] [] :=
  FunD.bindsN Fd fun _ _ _ _ _ _ us hl => match us, hl with | [_, _], _ => rfl
end
section
variable {P : Program} {w : World} {K : PySem.W.Frag} {mg : Str → Option Value} {base : Heap}
theorem sc_p_is_integer : FnScope ["value", "low", "high"] ["value", "low", "high"] (defScope t_p_is_integer) := ⟨rfl, rfl, rfl, by decide +kernel, rfl, by decide +kernel, by decide +kernel⟩
theorem ok_p_is_integer (h : Ft K mg) {fd : FuncData} (Fd : Fun K "is_integer" t_p_is_integer [] [] fd) : FnG P w K mg base 1 (He.ga K "is_integer") fd ["value", "low", "high"] (spP K fr_p_is_integer) := by
  show FnG P w K mg base (0 + 1) (He.ga K "is_integer") fd ["value", "low", "high"] (spP K (runP ["value", "low", "high"].length ["value", "low", "high"].length m_p_is_integer))
  refine fn_pure (N := ["value", "low", "high"]) (ps := ["value", "low", "high"]) (k := 0) (m := m_p_is_integer) Fd sc_p_is_integer ?_
  intro cdv A outer s H E hr tk hp
  have nd := sc_p_is_integer.nd
  have hg := hr.grd
  have hu : (A.deeper (envOfC "is_integer" (defScope t_p_is_integer) s.heap.objs.size (He.ga K "is_integer") cdv)).units + 64 < cLine := by have := hr.room.un; omega
  have hu2 : (A.deeper (envOfC "is_integer" (defScope t_p_is_integer) s.heap.objs.size (He.ga K "is_integer") cdv)).units + 100 < cLine := by have := hr.room.un; omega
  exact (pst_cons (pst_if (px_w (px_or (px_tnot (px_tst (px_isiT h.cs h.n_isinstance h.n_int (px_var 0)))) (px_or1 (px_tst (px_isiT h.cs h.n_isinstance h.n_bool (px_var 0)))))) (pst_one (pst_ret px_bl)) pst_nil) (pst_one (pst_ret (px_andV (px_orV (px_cmp opd_is (px_var 1) px_non) (px_one (px_cmp opd_le (px_var 1) (px_var 0)))) (px_one (px_orV (px_cmp opd_is (px_var 2) px_non) (px_one (px_cmp opd_le (px_var 0) (px_var 2)))))))))
theorem sc_p_require_base : FnScope ["value"] ["value"] (defScope t_p_require_base) := ⟨rfl, rfl, rfl, by decide +kernel, rfl, by decide +kernel, by decide +kernel⟩
theorem ok_p_require_base (h : Ft K mg) {fd : FuncData} (Fd : Fun K "require_base" t_p_require_base [] [] fd) : FnG P w K mg base 2 (He.ga K "require_base") fd ["value"] (spP K fr_p_require_base) := by
  obtain ⟨_, F_p_is_integer⟩ := h.d_p_is_integer
  have G_p_is_integer := ok_p_is_integer (P := P) (w := w) (base := base) h F_p_is_integer
  obtain ⟨_, i_GREATEST_BASE⟩ := h.i_GREATEST_BASE
  show FnG P w K mg base (1 + 1) (He.ga K "require_base") fd ["value"] (spP K (runP ["value"].length ["value"].length m_p_require_base))
  refine fn_pure (N := ["value"]) (ps := ["value"]) (k := 1) (m := m_p_require_base) Fd sc_p_require_base ?_
  intro cdv A outer s H E hr tk hp
  have nd := sc_p_require_base.nd
  have hg := hr.grd
  have hu : (A.deeper (envOfC "require_base" (defScope t_p_require_base) s.heap.objs.size (He.ga K "require_base") cdv)).units + 64 < cLine := by have := hr.room.un; omega
  have hu2 : (A.deeper (envOfC "require_base" (defScope t_p_require_base) s.heap.objs.size (He.ga K "require_base") cdv)).units + 100 < cLine := by have := hr.room.un; omega
  exact (pst_one (pst_if (px_tnot (px_tst (px_fz (px_call G_p_is_integer (hr.le (by decide)) tk (kb_p_is_integer_3 F_p_is_integer) h.g_p_is_integer F_p_is_integer.kp (pxa_cons (px_var 0) (pxa_cons px_int (pxa_cons (px_gint i_GREATEST_BASE) pxa_nil))))))) (pst_one (pst_raise h.e_InvalidBase h.g_p_InvalidBase tk rfl)) pst_nil))
theorem sc_p_require_modulus : FnScope ["value"] ["value"] (defScope t_p_require_modulus) := ⟨rfl, rfl, rfl, by decide +kernel, rfl, by decide +kernel, by decide +kernel⟩
theorem ok_p_require_modulus (h : Ft K mg) {fd : FuncData} (Fd : Fun K "require_modulus" t_p_require_modulus [] [] fd) : FnG P w K mg base 2 (He.ga K "require_modulus") fd ["value"] (spP K fr_p_require_modulus) := by
  obtain ⟨_, F_p_is_integer⟩ := h.d_p_is_integer
  have G_p_is_integer := ok_p_is_integer (P := P) (w := w) (base := base) h F_p_is_integer
  obtain ⟨_, i_GREATEST_MODULUS⟩ := h.i_GREATEST_MODULUS
  show FnG P w K mg base (1 + 1) (He.ga K "require_modulus") fd ["value"] (spP K (runP ["value"].length ["value"].length m_p_require_modulus))
  refine fn_pure (N := ["value"]) (ps := ["value"]) (k := 1) (m := m_p_require_modulus) Fd sc_p_require_modulus ?_
  intro cdv A outer s H E hr tk hp
  have nd := sc_p_require_modulus.nd
  have hg := hr.grd
  have hu : (A.deeper (envOfC "require_modulus" (defScope t_p_require_modulus) s.heap.objs.size (He.ga K "require_modulus") cdv)).units + 64 < cLine := by have := hr.room.un; omega
  have hu2 : (A.deeper (envOfC "require_modulus" (defScope t_p_require_modulus) s.heap.objs.size (He.ga K "require_modulus") cdv)).units + 100 < cLine := by have := hr.room.un; omega
  exact (pst_one (pst_if (px_tnot (px_tst (px_fz (px_call G_p_is_integer (hr.le (by decide)) tk (kb_p_is_integer_3 F_p_is_integer) h.g_p_is_integer F_p_is_integer.kp (pxa_cons (px_var 0) (pxa_cons px_int (pxa_cons (px_gint i_GREATEST_MODULUS) pxa_nil))))))) (pst_one (pst_raise h.e_InvalidModulus h.g_p_InvalidModulus tk rfl)) pst_nil))
theorem sc_p_divisor_of : FnScope ["base", "modulus", "part"] ["base", "modulus"] (defScope t_p_divisor_of) := ⟨rfl, rfl, rfl, by decide +kernel, rfl, by decide +kernel, by decide +kernel⟩
theorem ok_p_divisor_of (h : Ft K mg) {fd : FuncData} (Fd : Fun K "divisor_of" t_p_divisor_of [] [] fd) : FnG P w K mg base 1 (He.ga K "divisor_of") fd ["base", "modulus"] (spP K fr_p_divisor_of) := by
  show FnG P w K mg base (0 + 1) (He.ga K "divisor_of") fd ["base", "modulus"] (spP K (runP ["base", "modulus", "part"].length ["base", "modulus"].length m_p_divisor_of))
  refine fn_pure (N := ["base", "modulus", "part"]) (ps := ["base", "modulus"]) (k := 0) (m := m_p_divisor_of) Fd sc_p_divisor_of ?_
  intro cdv A outer s H E hr tk hp
  have nd := sc_p_divisor_of.nd
  have hg := hr.grd
  have hu : (A.deeper (envOfC "divisor_of" (defScope t_p_divisor_of) s.heap.objs.size (He.ga K "divisor_of") cdv)).units + 64 < cLine := by have := hr.room.un; omega
  have hu2 : (A.deeper (envOfC "divisor_of" (defScope t_p_divisor_of) s.heap.objs.size (He.ga K "divisor_of") cdv)).units + 100 < cLine := by have := hr.room.un; omega
  exact (pst_one (pst_ret (px_ix ixd_seq (px_fz (px_lc (own := [("part", 2)]) rfl nd (pit_range2 h.n_range (pxa_cons px_int (pxa_cons (px_bin opd_add (px_var 1) px_int) pxa_nil))) (blkOk_by (N := ["base", "modulus", "part"]) (sc := defScope t_p_divisor_of) (by decide +kernel)) (fun _ _ _ _ _ => (pgt_name (i := 2) nd)) (fun _ _ _ _ _ => (pts_if (px_w (px_and (px_tcmp (opd_eq hu) (px_bin opd_mod (px_var 1) (px_var 2)) px_int) (px_and1 (px_tcmp opd_lt (px_bin opd_fdiv (px_var 1) (px_var 2)) (px_var 0))))))) (fun _ _ _ _ _ => (px_var 2)))) px_int)))
theorem sc_p_most_places : FnScope ["base", "modulus", "twins", "divisor"] ["base", "modulus", "twins"] (defScope t_p_most_places) := ⟨rfl, rfl, rfl, by decide +kernel, rfl, by decide +kernel, by decide +kernel⟩
theorem ok_p_most_places (h : Ft K mg) {fd : FuncData} (Fd : Fun K "most_places" t_p_most_places [] [] fd) : FnG P w K mg base 2 (He.ga K "most_places") fd ["base", "modulus", "twins"] (spP K fr_p_most_places) := by
  obtain ⟨_, F_p_divisor_of⟩ := h.d_p_divisor_of
  have G_p_divisor_of := ok_p_divisor_of (P := P) (w := w) (base := base) h F_p_divisor_of
  show FnG P w K mg base (1 + 1) (He.ga K "most_places") fd ["base", "modulus", "twins"] (spP K (runP ["base", "modulus", "twins", "divisor"].length ["base", "modulus", "twins"].length m_p_most_places))
  refine fn_pure (N := ["base", "modulus", "twins", "divisor"]) (ps := ["base", "modulus", "twins"]) (k := 1) (m := m_p_most_places) Fd sc_p_most_places ?_
  intro cdv A outer s H E hr tk hp
  have nd := sc_p_most_places.nd
  have hg := hr.grd
  have hu : (A.deeper (envOfC "most_places" (defScope t_p_most_places) s.heap.objs.size (He.ga K "most_places") cdv)).units + 64 < cLine := by have := hr.room.un; omega
  have hu2 : (A.deeper (envOfC "most_places" (defScope t_p_most_places) s.heap.objs.size (He.ga K "most_places") cdv)).units + 100 < cLine := by have := hr.room.un; omega
  exact (pst_cons (pst_set (i := 3) nd (px_fz (px_call G_p_divisor_of (hr.le (by decide)) tk (kb_p_divisor_of_2 F_p_divisor_of) h.g_p_divisor_of F_p_divisor_of.kp (pxa_cons (px_var 0) (pxa_cons (px_var 1) pxa_nil))))) (pst_one (pst_ret (px_if (px_tst (px_var 2)) (px_bin opd_fdiv (px_var 3) px_int) (px_bin opd_sub (px_var 3) px_int)))))
theorem sc_p_longest : FnScope ["base", "modulus", "twins"] ["base", "modulus", "twins"] (defScope t_p_longest) := ⟨rfl, rfl, rfl, by decide +kernel, rfl, by decide +kernel, by decide +kernel⟩
theorem ok_p_longest (h : Ft K mg) {fd : FuncData} (Fd : Fun K "longest" t_p_longest [] [("twins", .bl false)] fd) : FnG P w K mg base 3 (He.ga K "longest") fd ["base", "modulus", "twins"] (spP K fr_p_longest) := by
  obtain ⟨_, F_p_require_base⟩ := h.d_p_require_base
  have G_p_require_base := ok_p_require_base (P := P) (w := w) (base := base) h F_p_require_base
  obtain ⟨_, F_p_require_modulus⟩ := h.d_p_require_modulus
  have G_p_require_modulus := ok_p_require_modulus (P := P) (w := w) (base := base) h F_p_require_modulus
  obtain ⟨_, F_p_most_places⟩ := h.d_p_most_places
  have G_p_most_places := ok_p_most_places (P := P) (w := w) (base := base) h F_p_most_places
  show FnG P w K mg base (2 + 1) (He.ga K "longest") fd ["base", "modulus", "twins"] (spP K (runP ["base", "modulus", "twins"].length ["base", "modulus", "twins"].length m_p_longest))
  refine fn_pure (N := ["base", "modulus", "twins"]) (ps := ["base", "modulus", "twins"]) (k := 2) (m := m_p_longest) Fd sc_p_longest ?_
  intro cdv A outer s H E hr tk hp
  have nd := sc_p_longest.nd
  have hg := hr.grd
  have hu : (A.deeper (envOfC "longest" (defScope t_p_longest) s.heap.objs.size (He.ga K "longest") cdv)).units + 64 < cLine := by have := hr.room.un; omega
  have hu2 : (A.deeper (envOfC "longest" (defScope t_p_longest) s.heap.objs.size (He.ga K "longest") cdv)).units + 100 < cLine := by have := hr.room.un; omega
  exact (pst_cons (pst_expr (px_call G_p_require_base (hr.le (by decide)) tk (kb_p_require_base_1 F_p_require_base) h.g_p_require_base F_p_require_base.kp (pxa_cons (px_var 0) pxa_nil))) (pst_cons (pst_expr (px_call G_p_require_modulus (hr.le (by decide)) tk (kb_p_require_modulus_1 F_p_require_modulus) h.g_p_require_modulus F_p_require_modulus.kp (pxa_cons (px_var 1) pxa_nil))) (pst_one (pst_ret (px_call G_p_most_places (hr.le (by decide)) tk (kb_p_most_places_3 F_p_most_places) h.g_p_most_places F_p_most_places.kp (pxa_cons (px_var 0) (pxa_cons (px_var 1) (pxa_cons (px_var 2) pxa_nil))))))))
theorem sc_law_cup : FnScope ["script", "k", "cell"] ["script", "k"] (defScope t_law_cup) := ⟨rfl, rfl, rfl, by decide +kernel, rfl, by decide +kernel, by decide +kernel⟩
theorem ok_law_cup (h : Ft K mg) {fd : FuncData} (Fd : Fun K "_law_cup" t_law_cup [] [] fd) : FnG P w K mg base 1 (He.ga K "_law_cup") fd ["script", "k"] (spP K fr_law_cup) := by
  show FnG P w K mg base (0 + 1) (He.ga K "_law_cup") fd ["script", "k"] (spP K (runP ["script", "k", "cell"].length ["script", "k"].length m_law_cup))
  refine fn_pure (N := ["script", "k", "cell"]) (ps := ["script", "k"]) (k := 0) (m := m_law_cup) Fd sc_law_cup ?_
  intro cdv A outer s H E hr tk hp
  have nd := sc_law_cup.nd
  have hg := hr.grd
  have hu : (A.deeper (envOfC "_law_cup" (defScope t_law_cup) s.heap.objs.size (He.ga K "_law_cup") cdv)).units + 64 < cLine := by have := hr.room.un; omega
  have hu2 : (A.deeper (envOfC "_law_cup" (defScope t_law_cup) s.heap.objs.size (He.ga K "_law_cup") cdv)).units + 100 < cLine := by have := hr.room.un; omega
  exact (pst_cons (pst_set (i := 2) nd (px_if (px_tcmp opd_lt (px_var 1) (px_callB cd_len h.n_len (pxa_cons (px_var 0) pxa_nil))) (px_ix ixd_seq (px_var 0) (px_var 1)) px_int)) (pst_one (pst_ret (px_lst (pxa_cons (px_callB (cd_max2 rfl) h.n_max (pxa_cons px_int (pxa_cons (px_bin opd_sub (px_callB cd_abs h.n_abs (pxa_cons (px_var 2) pxa_nil)) (px_bin opd_pow px_int px_int)) pxa_nil))) (pxa_cons (px_bin opd_mod (px_bin opd_add (px_bin opd_add (px_bin opd_mul (px_var 2) px_int) (px_bin opd_mul px_int (px_var 1))) px_int) (px_bin opd_add (px_bin opd_pow px_int px_int) px_int)) (pxa_cons px_int pxa_nil)))))))
theorem sc_law_sip : FnScope ["cup", "many", "digit", "mixed"] ["cup", "many"] (defScope t_law_sip) := ⟨rfl, rfl, rfl, by decide +kernel, rfl, by decide +kernel, by decide +kernel⟩
theorem ok_law_sip (h : Ft K mg) {fd : FuncData} (Fd : Fun K "_law_sip" t_law_sip [] [] fd) : FnG P w K mg base 1 (He.ga K "_law_sip") fd ["cup", "many"] (spM K [true, false] fm_law_sip) := by
  show FnG P w K mg base (0 + 1) (He.ga K "_law_sip") fd ["cup", "many"] (spM K [true, false] (runM ["cup", "many", "digit", "mixed"].length [true, false] m_law_sip))
  refine fn_mut (N := ["cup", "many", "digit", "mixed"]) (ps := ["cup", "many"]) (k := 0) (J := [0]) (m := m_law_sip) Fd sc_law_sip rfl (jOk (by decide)) ?_
  intro cdv A outer s H E Wx hr tk hp
  have nd := sc_law_sip.nd
  have hg := hr.grd
  have hu : (A.deeper (envOfC "_law_sip" (defScope t_law_sip) s.heap.objs.size (He.ga K "_law_sip") cdv)).units + 64 < cLine := by have := hr.room.un; omega
  have hu2 : (A.deeper (envOfC "_law_sip" (defScope t_law_sip) s.heap.objs.size (He.ga K "_law_sip") cdv)).units + 100 < cLine := by have := hr.room.un; omega
  exact (pst_cons (pst_if (px_tcmp opd_gt (px_ixO (i := 0) px_int) px_int) (pst_cons (pst_set (i := 2) nd (px_bin opd_mod (px_ixO (i := 0) px_int) (px_var 1))) (pst_cons (pst_setIx (i := 0) (px_bin opd_fdiv (px_ixO (i := 0) px_int) (px_var 1)) px_int) (pst_one (pst_ret (px_var 2))))) pst_nil) (pst_cons (pst_setIx (i := 0) (px_bin opd_add (px_ixO (i := 0) px_int) px_int) px_int) (pst_cons (pst_set (i := 3) nd (px_bin opd_mod (px_bin opd_pow (px_bin opd_add (px_ixO (i := 0) px_int) (px_bin opd_mul px_int (px_ixO (i := 0) px_int))) px_int) (px_bin opd_add (px_bin opd_pow px_int px_int) px_int))) (pst_cons (pst_set (i := 3) nd (px_bin opd_mod (px_bin opd_pow (px_bin opd_add (px_var 3) (px_bin opd_mul px_int (px_ixO (i := 0) px_int))) px_int) (px_bin opd_add (px_bin opd_pow px_int px_int) px_int))) (pst_one (pst_ret (px_bin opd_mod (px_bin opd_fdiv (px_var 3) (px_bin opd_pow px_int px_int)) (px_var 1))))))))
theorem sc_law_weak : FnScope ["load", "size", "divisor", "digit"] ["load", "size", "divisor"] (defScope t_law_weak) := ⟨rfl, rfl, rfl, by decide +kernel, rfl, by decide +kernel, by decide +kernel⟩
theorem ok_law_weak (h : Ft K mg) {fd : FuncData} (Fd : Fun K "_law_weak" t_law_weak [] [] fd) : FnG P w K mg base 1 (He.ga K "_law_weak") fd ["load", "size", "divisor"] (spP K fr_law_weak) := by
  show FnG P w K mg base (0 + 1) (He.ga K "_law_weak") fd ["load", "size", "divisor"] (spP K (runP ["load", "size", "divisor", "digit"].length ["load", "size", "divisor"].length m_law_weak))
  refine fn_pure (N := ["load", "size", "divisor", "digit"]) (ps := ["load", "size", "divisor"]) (k := 0) (m := m_law_weak) Fd sc_law_weak ?_
  intro cdv A outer s H E hr tk hp
  have nd := sc_law_weak.nd
  have hg := hr.grd
  have hu : (A.deeper (envOfC "_law_weak" (defScope t_law_weak) s.heap.objs.size (He.ga K "_law_weak") cdv)).units + 64 < cLine := by have := hr.room.un; omega
  have hu2 : (A.deeper (envOfC "_law_weak" (defScope t_law_weak) s.heap.objs.size (He.ga K "_law_weak") cdv)).units + 100 < cLine := by have := hr.room.un; omega
  exact (pst_one (pst_ret (px_cmp (opd_ne hu) (px_fz (px_lc (own := [("digit", 3)]) rfl nd (pit_range2 h.n_range (pxa_cons px_int (pxa_cons (px_var 1) pxa_nil))) (blkOk_by (N := ["load", "size", "divisor", "digit"]) (sc := defScope t_law_weak) (by decide +kernel)) (fun _ _ _ _ _ => (pgt_name (i := 3) nd)) (fun _ _ _ _ _ => (pts_if (px_tcmp (opd_eq hu) (px_bin opd_mod (px_bin opd_mul (px_var 0) (px_var 3)) (px_var 2)) px_int))) (fun _ _ _ _ _ => (px_var 3)))) (px_fz (px_lst pxa_nil)))))
theorem sc_law_longer : FnScope ["rows", "faint", "both", "found", "divisor", "row", "load", "bad", "one"] ["rows", "faint", "both"] (defScope t_law_longer) := ⟨rfl, rfl, rfl, by decide +kernel, rfl, by decide +kernel, by decide +kernel⟩
theorem ok_law_longer (h : Ft K mg) {fd : FuncData} (Fd : Fun K "_law_longer" t_law_longer [] [] fd) : FnG P w K mg base 1 (He.ga K "_law_longer") fd ["rows", "faint", "both"] (spP K fr_law_longer) := by
  show FnG P w K mg base (0 + 1) (He.ga K "_law_longer") fd ["rows", "faint", "both"] (spP K (runP ["rows", "faint", "both", "found", "divisor", "row", "load", "bad", "one"].length ["rows", "faint", "both"].length m_law_longer))
  refine fn_pure (N := ["rows", "faint", "both", "found", "divisor", "row", "load", "bad", "one"]) (ps := ["rows", "faint", "both"]) (k := 0) (m := m_law_longer) Fd sc_law_longer ?_
  intro cdv A outer s H E hr tk hp
  have nd := sc_law_longer.nd
  have hg := hr.grd
  have hu : (A.deeper (envOfC "_law_longer" (defScope t_law_longer) s.heap.objs.size (He.ga K "_law_longer") cdv)).units + 64 < cLine := by have := hr.room.un; omega
  have hu2 : (A.deeper (envOfC "_law_longer" (defScope t_law_longer) s.heap.objs.size (He.ga K "_law_longer") cdv)).units + 100 < cLine := by have := hr.room.un; omega
  exact (pst_cons (pst_parG (i := 3) (j := 4) rfl nd (pxb_cons (px_lst pxa_nil) (pxb_cons (px_callB cd_len h.n_len (pxa_cons (px_var 1) pxa_nil)) pxb_nil))) (pst_cons (pst_for hp rfl (pit_list (px_var 0)) (pgt_name (i := 5) nd) (pst_one (pst_for hp rfl (pit_range2 h.n_range (pxa_cons (px_if (px_tcmp (opd_ne hu) (px_var 5) (px_fz (px_lst pxa_nil))) (px_bin opd_add (px_ix ixd_seq (px_var 5) (px_un und_neg px_int)) px_int) px_int) (pxa_cons (px_var 4) pxa_nil))) (pgt_name (i := 6) nd) (pst_cons (pst_setLc (i := 7) (own := [("one", 8)]) rfl nd (pit_list (px_var 5)) (blkOk_by (N := ["rows", "faint", "both", "found", "divisor", "row", "load", "bad", "one"]) (sc := defScope t_law_longer) (by decide +kernel)) (fun _ _ _ _ _ => (pgt_name (i := 8) nd)) (fun _ _ _ _ _ => (pts_if (px_w (px_or (px_tst (px_ix ixd_seq (px_var 1) (px_bin opd_sub (px_var 6) (px_var 8)))) (px_or1 (px_w (px_and (px_tst (px_var 2)) (px_and1 (px_tst (px_ix ixd_seq (px_var 1) (px_bin opd_mod (px_bin opd_add (px_var 6) (px_var 8)) (px_var 4)))))))))))) (fun _ _ _ _ _ => (px_var 8)) (sw_true rfl rfl rfl (by decide +kernel))) (psl_frz 7 (pst_one (pst_if (px_w (px_and (px_tcmp (opd_eq hu) (px_var 7) (px_fz (px_lst pxa_nil))) (px_and1 (px_tnot (px_tst (px_ix ixd_seq (px_var 1) (px_var 6))))))) (pst_one (pst_expr (px_app (i := 3) (px_bin opd_add (px_var 5) (px_fz (px_lst (pxa_cons (px_var 6) pxa_nil))))))) pst_nil))))))) (pst_one (pst_ret (px_mv 3)))))
theorem sc_law_best : FnScope ["divisor", "size", "both", "faint", "found", "rows", "load"] ["divisor", "size", "both"] (defScope t_law_best) := ⟨rfl, rfl, rfl, by decide +kernel, rfl, by decide +kernel, by decide +kernel⟩
theorem ok_law_best (h : Ft K mg) {fd : FuncData} (Fd : Fun K "_law_best" t_law_best [] [] fd) : FnG P w K mg base 2 (He.ga K "_law_best") fd ["divisor", "size", "both"] (spP K fr_law_best) := by
  obtain ⟨_, F_law_weak⟩ := h.d_law_weak
  have G_law_weak := ok_law_weak (P := P) (w := w) (base := base) h F_law_weak
  obtain ⟨_, F_law_longer⟩ := h.d_law_longer
  have G_law_longer := ok_law_longer (P := P) (w := w) (base := base) h F_law_longer
  show FnG P w K mg base (1 + 1) (He.ga K "_law_best") fd ["divisor", "size", "both"] (spP K (runP ["divisor", "size", "both", "faint", "found", "rows", "load"].length ["divisor", "size", "both"].length m_law_best))
  refine fn_pure (N := ["divisor", "size", "both", "faint", "found", "rows", "load"]) (ps := ["divisor", "size", "both"]) (k := 1) (m := m_law_best) Fd sc_law_best ?_
  intro cdv A outer s H E hr tk hp
  have nd := sc_law_best.nd
  have hg := hr.grd
  have hu : (A.deeper (envOfC "_law_best" (defScope t_law_best) s.heap.objs.size (He.ga K "_law_best") cdv)).units + 64 < cLine := by have := hr.room.un; omega
  have hu2 : (A.deeper (envOfC "_law_best" (defScope t_law_best) s.heap.objs.size (He.ga K "_law_best") cdv)).units + 100 < cLine := by have := hr.room.un; omega
  exact (pst_cons (pst_setLc (i := 3) (own := [("load", 6)]) rfl nd (pit_range1 h.n_range (pxa_cons (px_var 0) pxa_nil)) (blkOk_by (N := ["divisor", "size", "both", "faint", "found", "rows", "load"]) (sc := defScope t_law_best) (by decide +kernel)) (fun _ _ _ _ _ => (pgt_name (i := 6) nd)) (fun _ _ _ _ _ => pts_yes) (fun _ _ _ _ _ => (px_fz (px_call G_law_weak (hr.le (by decide)) takes0 (kb_law_weak_3 F_law_weak) h.g_law_weak F_law_weak.kp (pxa_cons (px_var 6) (pxa_cons (px_var 1) (pxa_cons (px_var 0) pxa_nil)))))) (sw_true rfl rfl rfl (by decide +kernel))) (psl_frz 3 (pst_cons (pst_par (i := 4) (j := 5) rfl nd (pxb_cons px_int (pxb_cons (px_fz (px_call G_law_longer (hr.le (by decide)) tk (kb_law_longer_3 F_law_longer) h.g_law_longer F_law_longer.kp (pxa_cons (px_fz (px_lst (pxa_cons (px_fz (px_lst pxa_nil)) pxa_nil))) (pxa_cons (px_var 3) (pxa_cons (px_var 2) pxa_nil))))) pxb_nil))) (pst_cons (pst_while fuel_law_best_1 hp (px_tcmp (opd_ne hu) (px_var 5) (px_fz (px_lst pxa_nil))) (pst_one (pst_par (i := 4) (j := 5) rfl nd (pxb_cons (px_bin opd_add (px_var 4) px_int) (pxb_cons (px_fz (px_call G_law_longer (hr.le (by decide)) tk (kb_law_longer_3 F_law_longer) h.g_law_longer F_law_longer.kp (pxa_cons (px_var 5) (pxa_cons (px_var 3) (pxa_cons (px_var 2) pxa_nil))))) pxb_nil))))) (pst_one (pst_ret (px_var 4)))))))
theorem sc_p_law : FnScope ["script", "size", "divisor", "due", "k", "cup"] ["script"] (defScope t_p_law) := ⟨rfl, rfl, rfl, by decide +kernel, rfl, by decide +kernel, by decide +kernel⟩
theorem ok_p_law (h : Ft K mg) {fd : FuncData} (Fd : Fun K "law" t_p_law [] [] fd) : FnG P w K mg base 4 (He.ga K "law") fd ["script"] (spP K fr_p_law) := by
  obtain ⟨_, F_law_cup⟩ := h.d_law_cup
  have G_law_cup := ok_law_cup (P := P) (w := w) (base := base) h F_law_cup
  obtain ⟨_, F_p_longest⟩ := h.d_p_longest
  have G_p_longest := ok_p_longest (P := P) (w := w) (base := base) h F_p_longest
  obtain ⟨_, F_law_best⟩ := h.d_law_best
  have G_law_best := ok_law_best (P := P) (w := w) (base := base) h F_law_best
  obtain ⟨_, F_law_sip⟩ := h.d_law_sip
  have G_law_sip := ok_law_sip (P := P) (w := w) (base := base) h F_law_sip
  show FnG P w K mg base (3 + 1) (He.ga K "law") fd ["script"] (spP K (runP ["script", "size", "divisor", "due", "k", "cup"].length ["script"].length m_p_law))
  refine fn_pure (N := ["script", "size", "divisor", "due", "k", "cup"]) (ps := ["script"]) (k := 3) (m := m_p_law) Fd sc_p_law ?_
  intro cdv A outer s H E hr tk hp
  have nd := sc_p_law.nd
  have hg := hr.grd
  have hu : (A.deeper (envOfC "law" (defScope t_p_law) s.heap.objs.size (He.ga K "law") cdv)).units + 64 < cLine := by have := hr.room.un; omega
  have hu2 : (A.deeper (envOfC "law" (defScope t_p_law) s.heap.objs.size (He.ga K "law") cdv)).units + 100 < cLine := by have := hr.room.un; omega
  exact (pst_cons (pst_for hp rfl (pit_range2 h.n_range (pxa_cons px_int (pxa_cons px_int pxa_nil))) (pgt_name (i := 1) nd) (pst_one (pst_for hp rfl (pit_range2 h.n_range (pxa_cons px_int (pxa_cons px_int pxa_nil))) (pgt_name (i := 2) nd) (pst_cons (pst_set (i := 3) nd (px_fz (px_lst (pxa_cons (px_fz (px_call G_law_best (hr.le (by decide)) tk (kb_law_best_3 F_law_best) h.g_law_best F_law_best.kp (pxa_cons (px_var 2) (pxa_cons (px_var 1) (pxa_cons px_bl pxa_nil))))) (pxa_cons (px_fz (px_call G_law_best (hr.le (by decide)) tk (kb_law_best_3 F_law_best) h.g_law_best F_law_best.kp (pxa_cons (px_var 2) (pxa_cons (px_var 1) (pxa_cons px_bl pxa_nil))))) pxa_nil))))) (pst_one (pst_if (px_tcmp (opd_ne hu) (px_callB (cd_repr hg hu2) h.n_repr (pxa_cons (px_fz (px_lst (pxa_cons (px_fz (px_call G_p_longest (hr.le (by decide)) tk (kb_p_longest_2 F_p_longest) h.g_p_longest F_p_longest.kp (pxa_cons (px_var 1) (pxa_cons (px_var 2) pxa_nil)))) (pxa_cons (px_fz (px_callK G_p_longest (hr.le (by decide)) tk (kb_p_longest_2_twins F_p_longest) h.g_p_longest F_p_longest.kp (pxa_cons (px_var 1) (pxa_cons (px_var 2) pxa_nil)) (pxk_cons px_bl pxk_nil))) pxa_nil)))) pxa_nil)) (px_callB (cd_repr hg hu2) h.n_repr (pxa_cons (px_var 3) pxa_nil))) (pst_one (pst_ret px_bl)) pst_nil)))))) (pst_cons (pst_for hp rfl (pit_range1 h.n_range (pxa_cons (px_callB (cd_max2 rfl) h.n_max (pxa_cons px_int (pxa_cons (px_callB (cd_min2 rfl) h.n_min (pxa_cons px_int (pxa_cons (px_callB cd_len h.n_len (pxa_cons (px_var 0) pxa_nil)) pxa_nil))) pxa_nil))) pxa_nil)) (pgt_name (i := 4) nd) (pst_cons (pst_set (i := 5) nd (px_call G_law_cup (hr.le (by decide)) tk (kb_law_cup_2 F_law_cup) h.g_law_cup F_law_cup.kp (pxa_cons (px_var 0) (pxa_cons (px_var 4) pxa_nil)))) (pst_cons (pst_par (i := 1) (j := 2) rfl nd (pxb_cons (px_bin opd_add px_int (px_fz (px_callM G_law_sip (hr.le (by decide)) tk h.g_law_sip F_law_sip.kp (pam_own (i := 5) (pam_val px_int pam_nil)) (bt_law_sip F_law_sip)))) (pxb_cons (px_bin opd_add px_int (px_fz (px_callM G_law_sip (hr.le (by decide)) tk h.g_law_sip F_law_sip.kp (pam_own (i := 5) (pam_val px_int pam_nil)) (bt_law_sip F_law_sip)))) pxb_nil))) (pst_cons (pst_if (px_tcmp (opd_ne hu) (px_fz (px_call G_p_longest (hr.le (by decide)) tk (kb_p_longest_2 F_p_longest) h.g_p_longest F_p_longest.kp (pxa_cons (px_var 1) (pxa_cons (px_var 2) pxa_nil)))) (px_fz (px_call G_law_best (hr.le (by decide)) tk (kb_law_best_3 F_law_best) h.g_law_best F_law_best.kp (pxa_cons (px_var 2) (pxa_cons (px_var 1) (pxa_cons px_bl pxa_nil)))))) (pst_one (pst_ret px_bl)) pst_nil) (pst_one (pst_if (px_tcmp (opd_ne hu) (px_fz (px_callK G_p_longest (hr.le (by decide)) tk (kb_p_longest_2_twins F_p_longest) h.g_p_longest F_p_longest.kp (pxa_cons (px_var 1) (pxa_cons (px_var 2) pxa_nil)) (pxk_cons px_bl pxk_nil))) (px_fz (px_call G_law_best (hr.le (by decide)) tk (kb_law_best_3 F_law_best) h.g_law_best F_law_best.kp (pxa_cons (px_var 2) (pxa_cons (px_var 1) (pxa_cons px_bl pxa_nil)))))) (pst_one (pst_ret px_bl)) pst_nil)))))) (pst_one (pst_ret px_bl))))
end
def d_p_is_integer : He.DefD := ⟨("is_integer", none), "is_integer", "is_integer", defArgs t_p_is_integer, defBody t_p_is_integer, defScope t_p_is_integer, [], []⟩
def d_p_require_base : He.DefD := ⟨("require_base", none), "require_base", "require_base", defArgs t_p_require_base, defBody t_p_require_base, defScope t_p_require_base, [], []⟩
def d_p_require_modulus : He.DefD := ⟨("require_modulus", none), "require_modulus", "require_modulus", defArgs t_p_require_modulus, defBody t_p_require_modulus, defScope t_p_require_modulus, [], []⟩
def d_p_divisor_of : He.DefD := ⟨("divisor_of", none), "divisor_of", "divisor_of", defArgs t_p_divisor_of, defBody t_p_divisor_of, defScope t_p_divisor_of, [], []⟩
def d_p_most_places : He.DefD := ⟨("most_places", none), "most_places", "most_places", defArgs t_p_most_places, defBody t_p_most_places, defScope t_p_most_places, [], []⟩
def d_p_longest : He.DefD := ⟨("longest", none), "longest", "longest", defArgs t_p_longest, defBody t_p_longest, defScope t_p_longest, [], [("twins", .bl false)]⟩
def d_law_cup : He.DefD := ⟨("_law_cup", none), "_law_cup", "_law_cup", defArgs t_law_cup, defBody t_law_cup, defScope t_law_cup, [], []⟩
def d_law_sip : He.DefD := ⟨("_law_sip", none), "_law_sip", "_law_sip", defArgs t_law_sip, defBody t_law_sip, defScope t_law_sip, [], []⟩
def d_law_weak : He.DefD := ⟨("_law_weak", none), "_law_weak", "_law_weak", defArgs t_law_weak, defBody t_law_weak, defScope t_law_weak, [], []⟩
def d_law_longer : He.DefD := ⟨("_law_longer", none), "_law_longer", "_law_longer", defArgs t_law_longer, defBody t_law_longer, defScope t_law_longer, [], []⟩
def d_law_best : He.DefD := ⟨("_law_best", none), "_law_best", "_law_best", defArgs t_law_best, defBody t_law_best, defScope t_law_best, [], []⟩
def d_p_law : He.DefD := ⟨("law", none), "law", "law", defArgs t_p_law, defBody t_p_law, defScope t_p_law, [], []⟩
def fn : List He.DefD := ([d_p_is_integer, d_p_require_base, d_p_require_modulus, d_p_divisor_of, d_p_most_places, d_p_longest, d_law_cup, d_law_sip, d_law_weak, d_law_longer, d_law_best, d_p_law] : List He.DefD)
def fa : List He.Fa := ([.glo "is_integer", .glo "require_base", .glo "require_modulus", .glo "divisor_of", .glo "most_places", .glo "longest", .glo "_law_cup", .glo "_law_sip", .glo "_law_weak", .glo "_law_longer", .glo "_law_best", .glo "law", .glo "InvalidBase", .exc "InvalidBase", .glo "InvalidModulus", .exc "InvalidModulus", .free "abs", .free "bool", .free "int", .free "isinstance", .free "len", .free "max", .free "min", .free "range", .free "repr", .int "GREATEST_BASE" 36, .int "GREATEST_MODULUS" 200] : List He.Fa)
def loose : List Str := (["CheckError", "InvalidBase", "InvalidModulus", "GREATEST_BASE", "GREATEST_MODULUS", "is_integer", "require_base", "require_modulus", "divisor_of", "most_places", "longest", "_law_cup", "_law_sip", "_law_weak", "_law_longer", "_law_best"] : List Str)
abbrev R : PySem.W.OpenRow := PySem.W.OpenLaw.row PySem.Challenge.rw_checkdigits_k28_longest_by_all_weights
abbrev hk : PySem.W.Hook := He.hookD 4 fa fn
def ob (s : PySem.W.SharedT) : He.AlD := He.obsDG 4 fa fn (HandSHeadRun.getT s)
theorem ob_eq (s : PySem.W.SharedT) : ob s = hk.obs s.abs := He.obsDG_eq (HandSHeadRun.getT_eq s)
theorem run (w : World) : HandSHeadRun.RunEq R (PySem.W.view R.prog [20]) hk ob 200000 loose w := by
  intro os
  kernel_rfl
theorem ft_of {K : PySem.W.Frag} {h : Heap} {mg : Str → Option Value} (X : K.In h) (G : h.Ns mainGlobals mg) (c : He.SaysD fa fn K) : Ft K mg where
  cs := fun c hc => by cases hc
  g_p_is_integer := He.glo_ok X G (c.fact 0 (f := .glo "is_integer") rfl)
  d_p_is_integer := c.def_ 0 (d := d_p_is_integer) rfl
  g_p_require_base := He.glo_ok X G (c.fact 1 (f := .glo "require_base") rfl)
  d_p_require_base := c.def_ 1 (d := d_p_require_base) rfl
  g_p_require_modulus := He.glo_ok X G (c.fact 2 (f := .glo "require_modulus") rfl)
  d_p_require_modulus := c.def_ 2 (d := d_p_require_modulus) rfl
  g_p_divisor_of := He.glo_ok X G (c.fact 3 (f := .glo "divisor_of") rfl)
  d_p_divisor_of := c.def_ 3 (d := d_p_divisor_of) rfl
  g_p_most_places := He.glo_ok X G (c.fact 4 (f := .glo "most_places") rfl)
  d_p_most_places := c.def_ 4 (d := d_p_most_places) rfl
  g_p_longest := He.glo_ok X G (c.fact 5 (f := .glo "longest") rfl)
  d_p_longest := c.def_ 5 (d := d_p_longest) rfl
  g_law_cup := He.glo_ok X G (c.fact 6 (f := .glo "_law_cup") rfl)
  d_law_cup := c.def_ 6 (d := d_law_cup) rfl
  g_law_sip := He.glo_ok X G (c.fact 7 (f := .glo "_law_sip") rfl)
  d_law_sip := c.def_ 7 (d := d_law_sip) rfl
  g_law_weak := He.glo_ok X G (c.fact 8 (f := .glo "_law_weak") rfl)
  d_law_weak := c.def_ 8 (d := d_law_weak) rfl
  g_law_longer := He.glo_ok X G (c.fact 9 (f := .glo "_law_longer") rfl)
  d_law_longer := c.def_ 9 (d := d_law_longer) rfl
  g_law_best := He.glo_ok X G (c.fact 10 (f := .glo "_law_best") rfl)
  d_law_best := c.def_ 10 (d := d_law_best) rfl
  g_p_law := He.glo_ok X G (c.fact 11 (f := .glo "law") rfl)
  d_p_law := c.def_ 11 (d := d_p_law) rfl
  g_p_InvalidBase := He.glo_ok X G (c.fact 12 (f := .glo "InvalidBase") rfl)
  e_InvalidBase := let z := He.exc_ok (c.fact 13 (f := .exc "InvalidBase") rfl); ⟨z.1, z.2.1, z.2.2.1, z.2.2.2⟩
  g_p_InvalidModulus := He.glo_ok X G (c.fact 14 (f := .glo "InvalidModulus") rfl)
  e_InvalidModulus := let z := He.exc_ok (c.fact 15 (f := .exc "InvalidModulus") rfl); ⟨z.1, z.2.1, z.2.2.1, z.2.2.2⟩
  n_abs := He.free_ok X G (c.fact 16 (f := .free "abs") rfl)
  n_bool := He.free_ok X G (c.fact 17 (f := .free "bool") rfl)
  n_int := He.free_ok X G (c.fact 18 (f := .free "int") rfl)
  n_isinstance := He.free_ok X G (c.fact 19 (f := .free "isinstance") rfl)
  n_len := He.free_ok X G (c.fact 20 (f := .free "len") rfl)
  n_max := He.free_ok X G (c.fact 21 (f := .free "max") rfl)
  n_min := He.free_ok X G (c.fact 22 (f := .free "min") rfl)
  n_range := He.free_ok X G (c.fact 23 (f := .free "range") rfl)
  n_repr := He.free_ok X G (c.fact 24 (f := .free "repr") rfl)
  i_GREATEST_BASE := He.int_ok X G (c.fact 25 (f := .int "GREATEST_BASE" 36) rfl)
  i_GREATEST_MODULUS := He.int_ok X G (c.fact 26 (f := .int "GREATEST_MODULUS" 200) rfl)
theorem bl (K : PySem.W.Frag) (fd : FuncData) (Fd : Fun K "law" t_p_law [] [] fd) (s : Shared) (v : Value) : BindsTo s fd ⟨[v], []⟩ [("script", v)] :=
  (FunD.bindsA (ps := ["script"]) Fd fun _ _ _ _ _ _ us hl => match us, hl with | [_], _ => rfl) s [v] rfl
end Lw
open PySem PySem.W PySem.Calls PyProof.Rows in
theorem Lw.end_ (good : ∀ ns : List Int, ns.length ≤ 63 → Lw.fr_p_law [.scr ns] = .ok (.val (.bl true))) : PySem.Challenge.rw_checkdigits_k28_longest_by_all_weights.Holds := by
  w_on; o_law
  refine HandSHeadRun.head_any (r := OpenLaw.row PySem.Challenge.rw_checkdigits_k28_longest_by_all_weights) (q := view (OpenLaw.row PySem.Challenge.rw_checkdigits_k28_longest_by_all_weights).prog [20]) (H := Lw.hk) (ob := Lw.ob) (M := 200000) (loose := Lw.loose) (d := HandSHeadRun.topDef (OpenLaw.row PySem.Challenge.rw_checkdigits_k28_longest_by_all_weights).prog 20) (kwd := []) Lw.ob_eq
    (by kernel_rfl) (fun s => by kernel_rfl) Lw.run (by kernel_rfl) (by kernel_rfl) (by kernel_rfl) (by rfl) (by first | assumption | decide +kernel) (by decide +kernel) ⟨rfl, rfl, rfl, rfl, rfl, by decide +kernel⟩ ?hw ?hc
  case hw => w_witness2
  case hc =>
    refine P.walkG (l := PySem.Challenge.rw_checkdigits_k28_longest_by_all_weights) (n := 63) (k := 4) (x := "script") rfl (by decide) (by kernel_rfl) ⟨⟨rfl, by decide, by decide⟩, rfl⟩ ?F
    intro w mg fa h Y G hmg0
    obtain ⟨K, KX, c⟩ := Y
    have hmg : mg ("law" : PySem.Str) = some (.ref fa) := by
      have e : (HandSHeadRun.topDef (OpenLaw.row PySem.Challenge.rw_checkdigits_k28_longest_by_all_weights).prog 20).name = ("law" : PySem.Str) := by kernel_rfl
      rw [← e]
      exact hmg0
    have f := Lw.ft_of KX G c
    have e := hmg.symm.trans f.g_p_law
    cases e
    obtain ⟨fd, Fd⟩ := f.d_p_law
    refine ⟨K, fd, P.spP K Lw.fr_p_law, KX, Lw.bl K fd Fd, fun H a ns hl hS => ?_, fun base _ _ => ?_⟩
    · refine ⟨[], [.scr ns], fun _ z => by simp at z, .cons (.scr (P.hide_nil ▸ hS)) .nil, ?_⟩
      rw [good ns hl]
      intro v W' H' st rl
      obtain ⟨_, q⟩ := rl.pop
      exact q.bl_inv
    · exact Lw.ok_p_law (P := (PySem.Challenge.rw_checkdigits_k28_longest_by_all_weights).prog) (w := w) (base := base) f Fd
namespace Lw
open PySem PySem.Spec PyProof.Rows L2 P
--V
theorem v_is_integer (i lo hi : Int) : fr_p_is_integer [.int i, .int lo, .int hi] = .ok (.val (.bl (decide (lo ≤ i) && decide (i ≤ hi)))) := by
  by_cases h : lo ≤ i <;> simp [fr_p_is_integer, runP, m_p_is_integer, isiT, tyN, subT, CS, h]
theorem v_base (i : Int) (h1 : 2 ≤ i) (h2 : i ≤ 36) : fr_p_require_base [.int i] = .ok (.val .non) := by
  simp [fr_p_require_base, runP, m_p_require_base, v_is_integer, h1, h2]
theorem v_modulus (i : Int) (h1 : 2 ≤ i) (h2 : i ≤ 200) : fr_p_require_modulus [.int i] = .ok (.val .non) := by
  simp [fr_p_require_modulus, runP, m_p_require_modulus, v_is_integer, h1, h2]
/-- d is the least divisor of m by which it becomes less than b -/
structure Least (b m d : Int) : Prop where
  pos : 1 ≤ d
  le : d ≤ m
  dvd : m % d = 0
  lt : m / d < b
  least : ∀ e, 1 ≤ e → e < d → m % e = 0 → b ≤ m / e
theorem least_ex (b m : Int) (h1 : 2 ≤ b) (h2 : 2 ≤ m) : ∃ d, Least b m d := by
  have ex : ∃ n : Nat, 1 ≤ (n : Int) ∧ m % (n : Int) = 0 ∧ m / (n : Int) < b := ⟨m.toNat, by omega, by rw [Int.toNat_of_nonneg (by omega)]; simp, by rw [Int.toNat_of_nonneg (by omega), Int.ediv_self (by omega)]; omega⟩
  obtain ⟨n, ⟨p1, p2, p3⟩, hmin⟩ : ∃ n : Nat, (1 ≤ (n : Int) ∧ m % (n : Int) = 0 ∧ m / (n : Int) < b) ∧ ∀ k : Nat, k < n → ¬ (1 ≤ (k : Int) ∧ m % (k : Int) = 0 ∧ m / (k : Int) < b) := by
    obtain ⟨n, hn⟩ := ex
    induction n using Nat.strongRecOn with
    | ind n ih =>
      by_cases c : ∃ k, k < n ∧ (1 ≤ (k : Int) ∧ m % (k : Int) = 0 ∧ m / (k : Int) < b)
      · obtain ⟨k, hk, hp⟩ := c
        exact ih k hk hp
      · exact ⟨n, hn, fun k hk hp => c ⟨k, hk, hp⟩⟩
  refine ⟨n, p1, ?_, p2, p3, fun e h3 h4 h5 => ?_⟩
  · exact Int.le_of_dvd (by omega) (Int.dvd_of_emod_eq_zero p2)
  · have := hmin e.toNat (by omega)
    rw [Int.toNat_of_nonneg (by omega)] at this
    apply Int.not_lt.mp
    exact fun z => this ⟨h3, h5, z⟩
def okB (b m : Int) : D → Bool
  | .int p => decide (m % p = 0) && decide (m / p < b)
  | _ => false
theorem v_divisor (b m d : Int) (h1 : 2 ≤ b) (h2 : 2 ≤ m) (h3 : m ≤ 200) (L : Least b m d) : fr_p_divisor_of [.int b, .int m] = .ok (.val (.int d)) := by
  have key : lcL [2] (bName 2) lt_p_divisor_of_1 lm_p_divisor_of_1 (rngL 1 (m + 1 - 1).toNat) [.val (.int b), .val (.int m), .unb] = .ok ((rngL 1 (m + 1 - 1).toNat).filter (okB b m)) [.val (.int b), .val (.int m), .unb] := by
    have := lcL_eq (vs := [2]) (b := bName 2) (t := lt_p_divisor_of_1) (m := lm_p_divisor_of_1) (ρ := [.val (.int b), .val (.int m), .unb]) (okB b m) id (rngL 1 (m + 1 - 1).toNat) (by
      intro x hx
      obtain ⟨i, hi, rfl⟩ := mem_rngL hx
      refine ⟨_, rfl, ?_, ?_, ?_⟩
      · by_cases c : m % (1 + (i : Int)) = 0 <;> simp (disch := omega) [List.getElem?_cons_zero, List.getElem?_cons_succ, withL, Out.fm, P.mkArgs, P.putAll, okB, c, lt_p_divisor_of_1]
      · intro _; simp (disch := omega) [List.getElem?_cons_zero, List.getElem?_cons_succ, withL, Out.fm, P.mkArgs, P.putAll, lm_p_divisor_of_1]
      · simp (disch := omega) [List.getElem?_cons_zero, List.getElem?_cons_succ, withL, Out.fm, P.mkArgs, P.putAll])
    rw [List.map_id] at this
    exact this
  obtain ⟨p1, p2, p3, p4, p5⟩ := L
  have hl : (rngL 1 (m + 1 - 1).toNat).filter (okB b m) = .int d :: ((rngL (d + 1) (m - d).toNat).filter (okB b m)) := by
    rw [show (m + 1 - 1).toNat = (d - 1).toNat + ((m - d).toNat + 1) from by omega, rngL_add, rngL_succ, List.filter_append]
    rw [List.filter_eq_nil_iff.mpr, List.nil_append, List.filter_cons_of_pos, show (1 : Int) + ((d - 1).toNat : Int) = d from by omega]
    · rw [show (1 : Int) + ((d - 1).toNat : Int) = d from by omega]
      simp [okB, p3, p4]
    · intro x hx
      obtain ⟨i, hi, rfl⟩ := mem_rngL hx
      simp only [okB, Bool.and_eq_true, decide_eq_true_eq, not_and]
      intro z
      have := p5 (1 + i) (by omega) (by omega) z
      omega
  rw [hl] at key
  simp (disch := omega) [List.getElem?_cons_zero, List.getElem?_cons_succ, withL, Out.fm, P.mkArgs, P.putAll, fr_p_divisor_of, runP, m_p_divisor_of, key]
  rw [show m + 1 - 1 = m from by omega] at key
  rw [if_pos (by omega), key]
  simp (disch := omega) [List.getElem?_cons_zero, List.getElem?_cons_succ, withL, Out.fm, P.mkArgs, P.putAll]
/-! ### what is drawn -/
def Cup (n : Nat) (s : Slot) : Prop := ∃ a b c : Int, s = .ownL [.val (.int a), .val (.int b), .val (.int c)] ∧ 0 ≤ a ∧ 0 ≤ b ∧ b < 10000000000000000000000000000000000043 ∧ 0 ≤ c ∧ c ≤ n
theorem v_cup (ns : List Int) (k : Nat) : ∃ s, Cup 0 s ∧ fr_law_cup [.scr ns, .int k] = .ok s := by
  have all : ∀ x : Int, ∃ s, Cup 0 s ∧ s = .ownL [.val (.int (max 0 ((x.natAbs : Int) - 1000000000000000000))), .val (.int ((x * 71 + 13 * (k : Int) + 3) % 10000000000000000000000000000000000043)), .val (.int 0)] := fun x => ⟨_, ⟨_, _, _, rfl, by omega, Int.emod_nonneg _ (by decide), Int.emod_lt_of_pos _ (by decide), by omega, by omega⟩, rfl⟩
  by_cases h : k < ns.length
  · obtain ⟨s, hs, e⟩ := all ns[k]
    refine ⟨s, hs, ?_⟩
    rw [e]
    simp (disch := omega) [List.getElem?_cons_zero, List.getElem?_cons_succ, withL, Out.fm, P.mkArgs, P.putAll, fr_law_cup, runP, m_law_cup, h, powD_10]
  · obtain ⟨s, hs, e⟩ := all 0
    refine ⟨s, hs, ?_⟩
    rw [e]
    simp (disch := omega) [List.getElem?_cons_zero, List.getElem?_cons_succ, withL, Out.fm, P.mkArgs, P.putAll, fr_law_cup, runP, m_law_cup, h, powD_10]
theorem v_sip {N : Nat} {s : Slot} {n : Int} (h : Cup N s) (hN : N < 1000000) (h0 : 0 < n) (h1 : n < 1000000000000) : ∃ r s', 0 ≤ r ∧ r < n ∧ Cup (N + 1) s' ∧ fm_law_sip [s, .val (.int n)] = .ok (.val (.int r)) [s'] := by
  obtain ⟨a, b, c, rfl, ha, hb, hb2, hc, hc2⟩ := h
  by_cases z : a > 0
  · refine ⟨a % n, _, Int.emod_nonneg _ (by omega), Int.emod_lt_of_pos _ h0, ⟨a / n, b, c, rfl, Int.ediv_nonneg ha (by omega), hb, hb2, hc, by omega⟩, ?_⟩
    simp (disch := omega) [List.getElem?_cons_zero, List.getElem?_cons_succ, withL, Out.fm, P.mkArgs, P.putAll, fm_law_sip, runM, m_law_sip, z]
  · have e1 := Int.emod_nonneg ((b + 573259391 * (c + 1)) ^ 3) (b := 10000000000000000000000000000000000000121) (by decide)
    have e2 := Int.emod_lt_of_pos ((b + 573259391 * (c + 1)) ^ 3) (b := 10000000000000000000000000000000000000121) (by decide)
    refine ⟨(((b + 573259391 * (c + 1)) ^ 3 % 10000000000000000000000000000000000000121 + 433494437 * (c + 1)) ^ 2 % 1000000000000000000000000000000000000003) / 100000 % n, _, Int.emod_nonneg _ (by omega), Int.emod_lt_of_pos _ h0, ⟨a, b, c + 1, rfl, ha, hb, hb2, by omega, by omega⟩, ?_⟩
    simp (disch := omega) [List.getElem?_cons_zero, List.getElem?_cons_succ, withL, Out.fm, P.mkArgs, P.putAll, fm_law_sip, runM, m_law_sip, z, powD_10, powD_2, powD_3]
theorem v_most (b m d : Int) (t : Bool) (h1 : 2 ≤ b) (h2 : 2 ≤ m) (h3 : m ≤ 200) (L : Least b m d) : fr_p_most_places [.int b, .int m, .bl t] = .ok (.val (.int (if t then d / 2 else d - 1))) := by
  cases t <;> simp (disch := omega) [List.getElem?_cons_zero, List.getElem?_cons_succ, withL, Out.fm, P.mkArgs, P.putAll, fr_p_most_places, runP, m_p_most_places, v_divisor b m d h1 h2 h3 L]
theorem v_longest (b m d : Int) (t : Bool) (h1 : 2 ≤ b) (hb : b ≤ 36) (h2 : 2 ≤ m) (h3 : m ≤ 200) (L : Least b m d) : fr_p_longest [.int b, .int m, .bl t] = .ok (.val (.int (if t then d / 2 else d - 1))) := by
  simp (disch := omega) [List.getElem?_cons_zero, List.getElem?_cons_succ, withL, Out.fm, P.mkArgs, P.putAll, fr_p_longest, runP, m_p_longest, v_base b h1 hb, v_modulus m h2 h3, v_most b m d t h1 h2 h3 L]
/-! ### weights that are weak -/
theorem eqD_nil {l : List D} (h : pls l = true) (h2 : rDs l ≤ 63) : eqD (.lst l) (.lst []) = some (.bl l.isEmpty) := by
  rw [eqD_pl (by simpa [pl] using h) rfl (by simp only [rD]; omega) (by simp [rD, rDs])]
  cases l <;> simp
theorem neD_nil {l : List D} (h : pls l = true) (h2 : rDs l ≤ 63) : neD (.lst l) (.lst []) = some (.bl (!l.isEmpty)) := by
  rw [neD_pl (by simpa [pl] using h) rfl (by simp only [rD]; omega) (by simp [rD, rDs])]
  cases l <;> simp
def Weak (l s n : Int) : Prop := ∃ d, 1 ≤ d ∧ d < s ∧ l * d % n = 0
def wkT (l n : Int) : D → Bool
  | .int p => decide (l * p % n = 0)
  | _ => false
def wkB (l s n : Int) : Bool := !((rngL 1 (s - 1).toNat).filter (wkT l n)).isEmpty
theorem wkB_iff (l s n : Int) : wkB l s n = true ↔ Weak l s n := by
  unfold wkB
  rw [Bool.not_eq_true', List.isEmpty_eq_false_iff_exists_mem]
  constructor
  · rintro ⟨x, hx⟩
    obtain ⟨h1, h2⟩ := List.mem_filter.mp hx
    obtain ⟨i, hi, rfl⟩ := mem_rngL h1
    exact ⟨1 + i, by omega, by omega, of_decide_eq_true h2⟩
  · rintro ⟨d, h1, h2, h3⟩
    refine ⟨.int d, List.mem_filter.mpr ⟨?_, decide_eq_true h3⟩⟩
    unfold rngL
    refine List.mem_map.mpr ⟨(d - 1).toNat, List.mem_range.mpr (by omega), ?_⟩
    rw [show (1 : Int) + ((d - 1).toNat : Int) = d from by omega]
theorem pls_rng {lo : Int} {n : Nat} (T : D → Bool) : pls ((rngL lo n).filter T) = true := pls_all fun d h => by
  obtain ⟨i, _, rfl⟩ := mem_rngL (List.mem_filter.mp h).1
  rfl
theorem rDs_rng {lo : Int} {n : Nat} (T : D → Bool) : rDs ((rngL lo n).filter T) ≤ 63 := rDs_le fun d h => by
  obtain ⟨i, _, rfl⟩ := mem_rngL (List.mem_filter.mp h).1
  simp [rD]
theorem v_weak (l s n : Int) (h0 : 0 ≤ l) (h1 : l ≤ 1000) (h2 : 2 ≤ s) (h3 : s ≤ 1000) (h4 : 0 < n) : fr_law_weak [.int l, .int s, .int n] = .ok (.val (.bl (wkB l s n))) := by
  have key := lcL_eq (vs := [3]) (b := bName 3) (t := lt_law_weak_1) (m := lm_law_weak_1) (ρ := [.val (.int l), .val (.int s), .val (.int n), .unb]) (wkT l n) id (rngL 1 (s - 1).toNat) (by
    intro x hx
    obtain ⟨i, hi, rfl⟩ := mem_rngL hx
    refine ⟨_, rfl, ?_, ?_, ?_⟩
    · simp (disch := omega) [List.getElem?_cons_zero, List.getElem?_cons_succ, withL, Out.fm, P.mkArgs, P.putAll, lt_law_weak_1, wkT]
    · intro _; simp (disch := omega) [List.getElem?_cons_zero, List.getElem?_cons_succ, withL, Out.fm, P.mkArgs, P.putAll, lm_law_weak_1]
    · simp (disch := omega) [List.getElem?_cons_zero, List.getElem?_cons_succ, withL, Out.fm, P.mkArgs, P.putAll])
  rw [List.map_id] at key
  have nn := neD_nil (l := (rngL 1 (s - 1).toNat).filter (wkT l n)) (pls_rng _) (rDs_rng _)
  rw [show (s - 1).toNat = s.toNat - 1 from by omega] at key nn
  simp (disch := omega) [List.getElem?_cons_zero, List.getElem?_cons_succ, withL, Out.fm, P.mkArgs, P.putAll, fr_law_weak, runP, m_law_weak, wkB]
  rw [if_pos (by omega), key]
  simp (disch := omega) [List.getElem?_cons_zero, List.getElem?_cons_succ, withL, Out.fm, P.mkArgs, P.putAll, nn]
/-! ### rows of weights -/
def bad1 (fa : Int → Bool) (both : Bool) (n load one : Int) : Bool := fa (load - one) || (both && fa ((load + one) % n))
def okAdd (fa : Int → Bool) (both : Bool) (n : Int) (row : List Int) (load : Int) : Bool := (row.filter (bad1 fa both n load)).isEmpty && !fa load
def start (row : List Int) : Int := match row.getLast? with
  | some x => x + 1
  | none => 0
def rng (lo n : Int) : List Int := (List.range (n - lo).toNat).map fun i : Nat => lo + (i : Int)
def ext (fa : Int → Bool) (both : Bool) (n : Int) (row : List Int) : List (List Int) := ((rng (start row) n).filter (okAdd fa both n row)).map fun l => row ++ [l]
def longer (fa : Int → Bool) (both : Bool) (n : Int) (rows : List (List Int)) : List (List Int) := rows.flatMap (ext fa both n)
def rowD (row : List Int) : D := .lst (row.map .int)
def faD (fa : Int → Bool) (n : Nat) : D := .lst ((List.range n).map fun i : Nat => .bl (fa i))
/-- what stands in a row -/
def RowOk (n : Int) (row : List Int) : Prop := 0 ≤ start row ∧ start row ≤ n ∧ (∀ x ∈ row, 0 ≤ x ∧ x < start row) ∧ (row.length : Int) ≤ start row
theorem faD_get {fa : Int → Bool} {n : Nat} {i : Int} (h0 : 0 ≤ i) (h : i < n) : ixD (faD fa n) (.int i) = some (.bl (fa i)) := by
  unfold faD
  rw [ixD_l h0 (by simpa using h)]
  rw [List.getElem?_map, List.getElem?_range (by omega)]
  simp only [Option.map_some]
  rw [Int.toNat_of_nonneg h0]
def badT (fa : Int → Bool) (both : Bool) (n load : Int) : D → Bool
  | .int one => bad1 fa both n load one
  | _ => false
/-- one load at one row -/
theorem v_turn {fa : Int → Bool} {both : Bool} {n : Nat} {row : List Int} (hr : RowOk n row) (hn : 0 < n) (rs : D) (F : List (List Int)) (load : Int) (b7 : Slot) (h1 : start row ≤ load) (h2 : load < n) (hF : F.length < 100000) (hn2 : n ≤ 1000) :
    ∃ b7', fb_law_longer_1 [.val rs, .val (faD fa n), .val (.bl both), .ownL ((F.map rowD).map .val), .val (.int n), .val (rowD row), .val (.int load), b7, .unb] =
      .nx [.val rs, .val (faD fa n), .val (.bl both), .ownL (((if okAdd fa both n row load then F ++ [row ++ [load]] else F).map rowD).map .val), .val (.int n), .val (rowD row), .val (.int load), b7', .unb] := by
  obtain ⟨r1, r2, r3, r4⟩ := hr
  have hrow : row.length ≤ 10000 := by omega
  have key := lcL_eq (vs := [8]) (b := bName 8) (t := lt_law_longer_1) (m := lm_law_longer_1) (ρ := [.val rs, .val (faD fa n), .val (.bl both), .ownL ((F.map rowD).map .val), .val (.int n), .val (rowD row), .val (.int load), b7, .unb]) (badT fa both n load) id (row.map .int) (by
    intro x hx
    obtain ⟨one, ho, rfl⟩ := List.mem_map.mp hx
    obtain ⟨o1, o2⟩ := r3 one ho
    have e1 := faD_get (fa := fa) (n := n) (i := load - one) (by omega) (by omega)
    have m1 : 0 ≤ (load + one) % (n : Int) := Int.emod_nonneg _ (by omega)
    have m2 : (load + one) % (n : Int) < n := Int.emod_lt_of_pos _ (by omega)
    have e2 := faD_get (fa := fa) (n := n) (i := (load + one) % n) m1 m2
    refine ⟨_, rfl, ?_, ?_, ?_⟩
    · cases c : fa (load - one) <;> cases both <;> simp (disch := omega) [List.getElem?_cons_zero, List.getElem?_cons_succ, withL, Out.fm, P.mkArgs, P.putAll, lt_law_longer_1, badT, bad1, c, e1, e2]
    · intro _; simp (disch := omega) [List.getElem?_cons_zero, List.getElem?_cons_succ, withL, Out.fm, P.mkArgs, P.putAll, lm_law_longer_1]
    · simp (disch := omega) [List.getElem?_cons_zero, List.getElem?_cons_succ, withL, Out.fm, P.mkArgs, P.putAll])
  rw [List.map_id] at key
  have fm : (row.map D.int).filter (badT fa both n load) = (row.filter (bad1 fa both n load)).map .int := by
    rw [List.filter_map]; rfl
  rw [fm] at key
  have nn := eqD_nil (l := (row.filter (bad1 fa both n load)).map .int) (pls_ints _) (by simp)
  have ef := faD_get (fa := fa) (n := n) (i := load) (by omega) h2
  refine ⟨.val (.lst ((row.filter (bad1 fa both n load)).map .int)), ?_⟩
  have rl : (row.map D.int).length ≤ 16777216 := by rw [List.length_map]; omega
  have it : itL (rowD row) = some (row.map .int) := rfl
  have ad : addD (rowD row) (.lst [.int load]) = some (rowD (row ++ [load])) := by
    unfold rowD
    rw [addD_l, if_pos (by rw [List.length_map]; simp; omega), List.map_append]
    rfl
  have vF : valsOf ((F.map rowD).map .val) = some (F.map rowD) := valsOf_map _
  refine seq_step (ρ1 := [.val rs, .val (faD fa n), .val (.bl both), .ownL ((F.map rowD).map .val), .val (.int n), .val (rowD row), .val (.int load), .ownL (((row.filter (bad1 fa both n load)).map .int).map .val), .unb]) ?_ ?_
  · simp only [setS, lcM, iterM, var, List.getElem?_cons_zero, List.getElem?_cons_succ, Res.bd, it, P.ofO, rl, if_true, wipeP, List.set_cons_succ, List.set_cons_zero, key, restP]
  · rw [isEmpty_map'] at nn
    cases c : (row.filter (bad1 fa both n load)).isEmpty
    · simp (disch := omega) [List.getElem?_cons_zero, List.getElem?_cons_succ, withL, Out.fm, P.mkArgs, P.putAll, nn, c, okAdd]
    · cases c2 : fa load
      · simp (disch := omega) [List.getElem?_cons_zero, List.getElem?_cons_succ, withL, Out.fm, P.mkArgs, P.putAll, nn, c, okAdd, c2, ef, ad, hF]
        rw [if_pos (by omega)]
      · simp (disch := omega) [List.getElem?_cons_zero, List.getElem?_cons_succ, withL, Out.fm, P.mkArgs, P.putAll, nn, c, okAdd, c2, ef]
theorem start_app (row : List Int) (l : Int) : start (row ++ [l]) = l + 1 := by simp [start]
theorem mem_rng {lo n l : Int} : l ∈ rng lo n ↔ lo ≤ l ∧ l < n := by
  unfold rng
  rw [List.mem_map]
  constructor
  · rintro ⟨i, hi, rfl⟩
    have := List.mem_range.mp hi
    omega
  · intro h
    exact ⟨(l - lo).toNat, List.mem_range.mpr (by omega), by omega⟩
theorem ext_ok {fa : Int → Bool} {both : Bool} {n : Int} {row r : List Int} (h : RowOk n row) (hr : r ∈ ext fa both n row) : RowOk n r := by
  obtain ⟨h1, h2, h3, h4⟩ := h
  unfold ext at hr
  obtain ⟨l, hl, rfl⟩ := List.mem_map.mp hr
  obtain ⟨h5, h6⟩ := mem_rng.mp (List.mem_filter.mp hl).1
  unfold RowOk
  rw [start_app]
  refine ⟨by omega, by omega, fun x hx => ?_, by rw [List.length_append]; simp; omega⟩
  rcases List.mem_append.mp hx with hx | hx
  · have := h3 x hx; omega
  · rw [List.mem_singleton] at hx; subst hx; omega
theorem longer_ok {fa : Int → Bool} {both : Bool} {n : Int} {rows : List (List Int)} (h : ∀ r ∈ rows, RowOk n r) : ∀ r ∈ longer fa both n rows, RowOk n r := fun r hr => by
  obtain ⟨row, h1, h2⟩ := List.mem_flatMap.mp hr
  exact ext_ok (h row h1) h2
/-! how many there are -/
def pot (n : Int) (row : List Int) : Nat := 2 ^ (n - start row).toNat
def potS (n : Int) (rows : List (List Int)) : Nat := (rows.map (pot n)).sum
theorem potS_cons (n : Int) (r : List Int) (rows : List (List Int)) : potS n (r :: rows) = pot n r + potS n rows := by simp [potS]
theorem potS_app (n : Int) (a b : List (List Int)) : potS n (a ++ b) = potS n a + potS n b := by simp [potS]
theorem len_potS (n : Int) : ∀ rows : List (List Int), rows.length ≤ potS n rows
  | [] => by simp [potS]
  | r :: rows => by
    rw [potS_cons]
    have := len_potS n rows
    have : 0 < pot n r := Nat.pow_pos (by decide)
    simp; omega
theorem potS_filter (n : Int) (row : List Int) (p : Int → Bool) : ∀ ls : List Int, potS n ((ls.filter p).map fun l => row ++ [l]) ≤ potS n (ls.map fun l => row ++ [l])
  | [] => by simp [potS]
  | l :: ls => by
    have := potS_filter n row p ls
    rw [List.filter_cons]
    split
    · simp only [List.map_cons, potS_cons]; omega
    · simp only [List.map_cons, potS_cons]; omega
theorem potS_rng (n : Int) (row : List Int) : ∀ (k : Nat) (lo : Int), (n - lo).toNat = k → potS n ((rng lo n).map fun l => row ++ [l]) + 1 = 2 ^ k := by
  intro k
  induction k with
  | zero => intro lo h; unfold rng; rw [h]; simp [potS]
  | succ k ih =>
    intro lo h
    have e : rng lo n = lo :: rng (lo + 1) n := by
      unfold rng
      rw [h, show (n - (lo + 1)).toNat = k from by omega, List.range_succ_eq_map, List.map_cons, List.map_map]
      congr 1
      · simp
      · apply List.map_congr_left
        intro i _
        show lo + ((i + 1 : Nat) : Int) = lo + 1 + (i : Int)
        omega
    have := ih (lo + 1) (by omega)
    rw [e, List.map_cons, potS_cons]
    have hp : pot n (row ++ [lo]) = 2 ^ k := by
      unfold pot; rw [start_app, show (n - (lo + 1)).toNat = k from by omega]
    rw [hp, Nat.pow_succ]
    omega
theorem potS_ext (fa : Int → Bool) (both : Bool) (n : Int) (row : List Int) : potS n (ext fa both n row) ≤ pot n row := by
  have a := potS_filter n row (okAdd fa both n row) (rng (start row) n)
  have b := potS_rng n row _ (start row) rfl
  unfold ext pot
  omega
theorem potS_longer (fa : Int → Bool) (both : Bool) (n : Int) : ∀ rows : List (List Int), potS n (longer fa both n rows) ≤ potS n rows
  | [] => by simp [longer, potS]
  | r :: rows => by
    have := potS_longer fa both n rows
    have := potS_ext fa both n r
    rw [potS_cons]
    unfold longer at *
    rw [List.flatMap_cons, potS_app]
    omega
theorem longer_take (fa : Int → Bool) (both : Bool) (n : Int) (rows : List (List Int)) (k : Nat) : (longer fa both n (rows.take k)).length ≤ potS n rows := by
  have a := len_potS n (longer fa both n (rows.take k))
  have b := potS_longer fa both n (rows.take k)
  have c : potS n rows = potS n (rows.take k) + potS n (rows.drop k) := by rw [← potS_app, List.take_append_drop]
  omega
def part (fa : Int → Bool) (both : Bool) (n : Int) (row : List Int) (i : Nat) : List (List Int) := (((List.range i).map fun i : Nat => start row + (i : Int)).filter (okAdd fa both n row)).map fun l => row ++ [l]
theorem part_succ (fa : Int → Bool) (both : Bool) (n : Int) (row : List Int) (i : Nat) : part fa both n row (i + 1) = part fa both n row i ++ (if okAdd fa both n row (start row + i) then [row ++ [start row + (i : Int)]] else []) := by
  unfold part
  rw [List.range_succ, List.map_append, List.filter_append, List.map_append]
  congr 1
  simp only [List.map_cons, List.map_nil, List.filter_cons, List.filter_nil]
  split <;> rfl
theorem part_len (fa : Int → Bool) (both : Bool) (n : Int) (row : List Int) (i : Nat) : (part fa both n row i).length ≤ i := by
  unfold part
  rw [List.length_map]
  refine Nat.le_trans (List.length_filter_le _ _) ?_
  simp
theorem ix_last {row : List Int} {x : Int} (h : row.getLast? = some x) : ixD (rowD row) (.int (-1)) = some (.int x) := by
  show atI (row.map D.int) (-1) = _
  have hl : 0 < row.length := by
    cases row with
    | nil => cases h
    | cons _ _ => simp
  unfold atI ixN
  rw [if_neg (by omega), List.length_map, if_pos (by omega)]
  show (row.map D.int)[((-1 : Int) + (row.length : Int)).toNat]? = _
  rw [List.getElem?_map, show ((-1 : Int) + (row.length : Int)).toNat = row.length - 1 from by omega, ← List.getLast?_eq_getElem?, h]
  rfl
theorem v_row {fa : Int → Bool} {both : Bool} {n : Nat} {row : List Int} (hr : RowOk n row) (hn : 0 < n) (hn2 : n ≤ 1000) (rs : D) (F : List (List Int)) (b6 b7 : Slot) (hF : F.length ≤ 50000) :
    ∃ b6' b7', fb_law_longer_2 [.val rs, .val (faD fa n), .val (.bl both), .ownL ((F.map rowD).map .val), .val (.int n), .val (rowD row), b6, b7, .unb] =
      .nx [.val rs, .val (faD fa n), .val (.bl both), .ownL (((F ++ ext fa both n row).map rowD).map .val), .val (.int n), .val (rowD row), b6', b7', .unb] := by
  obtain ⟨r1, r2, r3, r4⟩ := hr
  obtain ⟨_, e, b6', b7', rfl⟩ := forL_inv (b := bName 6) (body := fb_law_longer_1) (rngL (start row) ((n : Int) - start row).toNat) (fun i ρ => ∃ b6 b7, ρ = [.val rs, .val (faD fa n), .val (.bl both), .ownL (((F ++ part fa both n row i).map rowD).map .val), .val (.int n), .val (rowD row), b6, b7, .unb]) (by
    rintro i d ρ hd ⟨c6, c7, rfl⟩
    obtain ⟨h1, rfl⟩ := get_rngL hd
    have pl := part_len fa both n row i
    obtain ⟨b7', e⟩ := v_turn (fa := fa) (both := both) ⟨r1, r2, r3, r4⟩ hn rs (F ++ part fa both n row i) (start row + i) c7 (by omega) (by omega) (by rw [List.length_append]; omega) hn2
    refine ⟨_, _, rfl, e, .val (.int (start row + i)), b7', ?_⟩
    rw [part_succ, ← List.append_assoc]
    split
    · rfl
    · rw [List.append_nil]) [.val rs, .val (faD fa n), .val (.bl both), .ownL ((F.map rowD).map .val), .val (.int n), .val (rowD row), b6, b7, .unb] ⟨b6, b7, by simp [part]⟩
  rw [rngL_len] at e
  refine ⟨b6', b7', ?_⟩
  have nn := neD_nil (l := row.map .int) (pls_ints _) (by simp)
  rw [isEmpty_map'] at nn
  have hrow : (D.lst (row.map .int)) = rowD row := rfl
  rw [hrow] at nn
  have st : (iterA rng2 (consA (cond (tst (bop neD (var 5) (fzM (lstM nilA)))) (bop addD (bop ixD (var 5) (uop negD (cst (.int 1)))) (cst (.int 1))) (cst (.int 0))) (consA (var 4) nilA))) [.val rs, .val (faD fa n), .val (.bl both), .ownL ((F.map rowD).map .val), .val (.int n), .val (rowD row), b6, b7, .unb] = .ok (rngL (start row) ((n : Int) - start row).toNat) [.val rs, .val (faD fa n), .val (.bl both), .ownL ((F.map rowD).map .val), .val (.int n), .val (rowD row), b6, b7, .unb] := by
    cases q : row.getLast? with
    | none =>
      have : row = [] := List.getLast?_eq_none_iff.mp q
      subst this
      have : start [] = 0 := rfl
      rw [this]
      simp (disch := omega) [List.getElem?_cons_zero, List.getElem?_cons_succ, withL, Out.fm, P.mkArgs, P.putAll, nn]
    | some x =>
      have ix := ix_last q
      have sx : start row = x + 1 := by unfold start; rw [q]
      have ne : row.isEmpty = false := by
        cases row with
        | nil => cases q
        | cons _ _ => rfl
      rw [sx] at r1 r2 ⊢
      simp (disch := omega) [List.getElem?_cons_zero, List.getElem?_cons_succ, withL, Out.fm, P.mkArgs, P.putAll, nn, ne, ix]
  unfold fb_law_longer_2
  unfold forS
  rw [st]
  exact e
theorem v_longer {fa : Int → Bool} {both : Bool} {n : Nat} {rows : List (List Int)} (hr : ∀ r ∈ rows, RowOk n r) (hn : 0 < n) (hn2 : n ≤ 1000) (hp : potS n rows ≤ 50000) :
    fr_law_longer [.lst (rows.map rowD), faD fa n, .bl both] = .ok (.ownL (((longer fa both n rows).map rowD).map .val)) := by
  obtain ⟨_, e, b5, b6, b7, rfl⟩ := forL_inv (b := bName 5) (body := fb_law_longer_2) (rows.map rowD) (fun i ρ => ∃ b5 b6 b7, ρ = [.val (.lst (rows.map rowD)), .val (faD fa n), .val (.bl both), .ownL (((longer fa both n (rows.take i)).map rowD).map .val), .val (.int n), b5, b6, b7, .unb]) (by
    rintro i d ρ hd ⟨c5, c6, c7, rfl⟩
    rw [List.getElem?_map, Option.map_eq_some_iff] at hd
    obtain ⟨row, hrow, rfl⟩ := hd
    obtain ⟨b6', b7', e⟩ := v_row (fa := fa) (both := both) (hr row (List.mem_of_getElem? hrow)) hn hn2 (.lst (rows.map rowD)) (longer fa both n (rows.take i)) c6 c7 (Nat.le_trans (longer_take fa both n rows i) hp)
    refine ⟨_, _, rfl, e, .val (rowD row), b6', b7', ?_⟩
    have : longer fa both n (rows.take (i + 1)) = longer fa both n (rows.take i) ++ ext fa both n row := by
      unfold longer
      rw [List.take_add_one, hrow, List.flatMap_append]
      simp
    rw [this]) [.val (.lst (rows.map rowD)), .val (faD fa n), .val (.bl both), .ownL [], .val (.int n), .unb, .unb, .unb, .unb] ⟨.unb, .unb, .unb, by simp [longer]⟩
  rw [List.length_map, List.take_length] at e
  refine runP_rt (ρ := [.val (.lst (rows.map rowD)), .val (faD fa n), .val (.bl both), .unb, .val (.int n), b5, b6, b7, .unb]) rfl (seq_step (ρ1 := [.val (.lst (rows.map rowD)), .val (faD fa n), .val (.bl both), .ownL [], .val (.int n), .unb, .unb, .unb, .unb]) ?_ (seq_step (ρ1 := [.val (.lst (rows.map rowD)), .val (faD fa n), .val (.bl both), .ownL (((longer fa both n rows).map rowD).map .val), .val (.int n), b5, b6, b7, .unb]) ?_ ?_))
  · have : lenD [faD fa n] = some (.int n) := by unfold faD; rw [lenD_l]; simp
    simp (disch := omega) [List.getElem?_cons_zero, List.getElem?_cons_succ, withL, Out.fm, P.mkArgs, P.putAll, this]
  · unfold forS
    have : (iterM itL (var 0)) [.val (.lst (rows.map rowD)), .val (faD fa n), .val (.bl both), .ownL [], .val (.int n), .unb, .unb, .unb, .unb] = .ok (rows.map rowD) [.val (.lst (rows.map rowD)), .val (faD fa n), .val (.bl both), .ownL [], .val (.int n), .unb, .unb, .unb, .unb] := by simp (disch := omega) [List.getElem?_cons_zero, List.getElem?_cons_succ, withL, Out.fm, P.mkArgs, P.putAll]
    rw [this]
    exact e
  · simp (disch := omega) [List.getElem?_cons_zero, List.getElem?_cons_succ, withL, Out.fm, P.mkArgs, P.putAll]
/-! ### the greatest number of weights -/
def lev (fa : Int → Bool) (both : Bool) (n : Int) : Nat → List (List Int)
  | 0 => [[]]
  | k + 1 => longer fa both n (lev fa both n k)
theorem lev_ok (fa : Int → Bool) (both : Bool) (n : Nat) : ∀ k, ∀ r ∈ lev fa both n k, RowOk n r
  | 0, r, h => by
    have : r = [] := by simpa [lev] using h
    subst this
    refine ⟨by simp [start], by simp [start], by simp, by simp [start]⟩
  | k + 1, r, h => longer_ok (lev_ok fa both n k) r h
theorem lev_pot (fa : Int → Bool) (both : Bool) (n : Nat) (hn : n ≤ 15) : ∀ k, potS n (lev fa both n k) ≤ 50000
  | 0 => by
    have : potS n [[]] = 2 ^ n := by simp [potS, pot, start]
    show potS n [[]] ≤ 50000
    rw [this]
    exact Nat.le_trans (Nat.pow_le_pow_right (by decide) hn) (by decide)
  | k + 1 => Nat.le_trans (potS_longer fa both n _) (lev_pot fa both n hn k)
theorem pls_rows (rows : List (List Int)) : pls (rows.map rowD) = true := pls_all fun d h => by
  obtain ⟨r, _, rfl⟩ := List.mem_map.mp h
  simp [rowD, pl]
theorem rDs_rows (rows : List (List Int)) : rDs (rows.map rowD) ≤ 63 := rDs_le fun d h => by
  obtain ⟨r, _, rfl⟩ := List.mem_map.mp h
  simp [rowD, rD]
def fD (n : Nat) (s : Int) : D → D
  | .int i => .bl (wkB i s n)
  | d => d
theorem frz_step {i : Nat} {m : S} {ρ : P.Env} {s : Slot} {d : D} {o : Out} (h : ρ[i]? = some s) (hf : s.fz = some d) (h2 : m (ρ.set i (.val d)) = o) : frzS i m ρ = o := by
  unfold frzS; rw [h]; dsimp only; rw [hf]; exact h2
theorem v_best (n : Nat) (s : Int) (both : Bool) (K : Nat) (hn : 0 < n) (hn2 : n ≤ 15) (hs : 2 ≤ s) (hs2 : s ≤ 1000) (hK : K < 1000) (h1 : ∀ k, k < K → lev (fun i => wkB i s n) both n (k + 1) ≠ []) (h2 : lev (fun i => wkB i s n) both n (K + 1) = []) :
    fr_law_best [.int n, .int s, .bl both] = .ok (.val (.int K)) := by
  have key := lcL_eq (vs := [6]) (b := bName 6) (t := yesM) (m := lm_law_best_1) (ρ := [.val (.int n), .val (.int s), .val (.bl both), .unb, .unb, .unb, .unb]) (fun _ => true) (fD n s) (rngL 0 n) (by
    intro x hx
    obtain ⟨i, hi, rfl⟩ := mem_rngL hx
    refine ⟨_, rfl, ?_, ?_, ?_⟩
    · simp (disch := omega) [List.getElem?_cons_zero, List.getElem?_cons_succ, withL, Out.fm, P.mkArgs, P.putAll]
    · intro _
      have := v_weak (i : Int) s n (by omega) (by omega) hs hs2 (by omega)
      simp (disch := omega) [List.getElem?_cons_zero, List.getElem?_cons_succ, withL, Out.fm, P.mkArgs, P.putAll, lm_law_best_1, this, fD]
    · simp (disch := omega) [List.getElem?_cons_zero, List.getElem?_cons_succ, withL, Out.fm, P.mkArgs, P.putAll])
  rw [List.filter_eq_self.mpr (by simp)] at key
  have fad : D.lst ((rngL 0 n).map (fD n s)) = faD (fun i => wkB i s n) n := by
    unfold faD rngL
    rw [List.map_map]
    congr 1
    apply List.map_congr_left
    intro i _
    simp [fD]
  have vl : ∀ k, fr_law_longer [.lst ((lev (fun i => wkB i s n) both n k).map rowD), faD (fun i => wkB i s n) n, .bl both] = .ok (.ownL (((lev (fun i => wkB i s n) both n (k + 1)).map rowD).map .val)) := fun k => v_longer (lev_ok _ both n k) hn (by omega) (lev_pot _ both n hn2 k)
  have v0 := vl 0
  have e0 : (lev (fun i => wkB i s n) both n 0).map rowD = [.lst []] := by simp [lev, rowD]
  rw [e0] at v0
  have wh := whileS_iter (c := wc_law_best_1) (body := wb_law_best_1) (fun k => [.val (.int n), .val (.int s), .val (.bl both), .val (faD (fun i => wkB i s n) n), .val (.int k), .val (.lst ((lev (fun i => wkB i s n) both n (k + 1)).map rowD)), .unb]) K (fun k hk => by
      have nn := neD_nil (pls_rows (lev (fun i => wkB i s n) both n (k + 1))) (rDs_rows _)
      rw [isEmpty_map', List.isEmpty_eq_false_iff.mpr (h1 k hk)] at nn
      constructor
      · simp (disch := omega) [List.getElem?_cons_zero, List.getElem?_cons_succ, withL, Out.fm, P.mkArgs, P.putAll, wc_law_best_1, nn]
      · have := vl (k + 1)
        simp (disch := omega) [List.getElem?_cons_zero, List.getElem?_cons_succ, withL, Out.fm, P.mkArgs, P.putAll, wb_law_best_1, this]) (by
      have nn := neD_nil (pls_rows (lev (fun i => wkB i s n) both n (K + 1))) (rDs_rows _)
      rw [isEmpty_map', h2] at nn
      rw [h2]
      simp (disch := omega) [List.getElem?_cons_zero, List.getElem?_cons_succ, withL, Out.fm, P.mkArgs, P.putAll, wc_law_best_1]
      simp only [List.map_nil, List.isEmpty_nil, Bool.not_true] at nn
      simp (disch := omega) [List.getElem?_cons_zero, List.getElem?_cons_succ, withL, Out.fm, P.mkArgs, P.putAll, nn]) 0 fuel_law_best_1 (by omega) (by unfold fuel_law_best_1; omega)
  refine runP_rt (ρ := [.val (.int n), .val (.int s), .val (.bl both), .val (faD (fun i => wkB i s n) n), .val (.int K), .val (.lst ((lev (fun i => wkB i s n) both n (K + 1)).map rowD)), .unb]) rfl (seq_step (ρ1 := [.val (.int n), .val (.int s), .val (.bl both), .ownL (((rngL 0 n).map (fD n s)).map .val), .unb, .unb, .unb]) ?_ ?_)
  · simp (disch := omega) [List.getElem?_cons_zero, List.getElem?_cons_succ, withL, Out.fm, P.mkArgs, P.putAll, key]
    rw [if_pos (by omega)]
    simp (disch := omega) [List.getElem?_cons_zero, List.getElem?_cons_succ, withL, Out.fm, P.mkArgs, P.putAll]
  · refine frz_step (s := .ownL (((rngL 0 n).map (fD n s)).map .val)) rfl fz_own ?_
    rw [fad]
    refine seq_step (ρ1 := [.val (.int n), .val (.int s), .val (.bl both), .val (faD (fun i => wkB i s n) n), .val (.int 0), .val (.lst ((lev (fun i => wkB i s n) both n 1).map rowD)), .unb]) ?_ (seq_step (ρ1 := [.val (.int n), .val (.int s), .val (.bl both), .val (faD (fun i => wkB i s n) n), .val (.int K), .val (.lst ((lev (fun i => wkB i s n) both n (K + 1)).map rowD)), .unb]) wh ?_)
    · simp (disch := omega) [List.getElem?_cons_zero, List.getElem?_cons_succ, withL, Out.fm, P.mkArgs, P.putAll, v0]
    · simp (disch := omega) [List.getElem?_cons_zero, List.getElem?_cons_succ, withL, Out.fm, P.mkArgs, P.putAll]
/-! ### how many weights there can be -/
theorem pigeon : ∀ (m : Nat) (l : List Int), l.Nodup → (∀ x ∈ l, 1 ≤ x ∧ x ≤ m) → l.length ≤ m
  | 0, l, _, h => by
    cases l with
    | nil => simp
    | cons x r => have := h x (by simp); omega
  | m + 1, l, hn, h => by
    by_cases c : ((m + 1 : Nat) : Int) ∈ l
    · have := pigeon m (l.erase ((m + 1 : Nat) : Int)) (hn.erase _) fun x hx => by
        have h1 := List.mem_of_mem_erase hx
        have h2 : x ≠ ((m + 1 : Nat) : Int) := fun z => by subst z; exact absurd hx (hn.not_mem_erase)
        have := h x h1
        omega
      rw [List.length_erase_of_mem c] at this
      omega
    · have := pigeon m l hn fun x hx => by
        have := h x hx
        have h2 : x ≠ ((m + 1 : Nat) : Int) := fun z => by subst z; exact c hx
        omega
      omega
theorem weak_mul {s n p : Int} (L : Least s n p) (x : Int) (h : x % p = 0) : Weak x s n := by
  obtain ⟨p1, p2, p3, p4, _⟩ := L
  have e1 : p * (x / p) = x := Int.mul_ediv_cancel' (Int.dvd_of_emod_eq_zero h)
  have e2 : p * (n / p) = n := Int.mul_ediv_cancel' (Int.dvd_of_emod_eq_zero p3)
  refine ⟨n / p, ?_, p4, ?_⟩
  · exact (Int.le_ediv_iff_mul_le (by omega)).mpr (by omega)
  · have : x * (n / p) = n * (x / p) := by
      conv => lhs; rw [← e1]
      conv => rhs; rw [← e2]
      rw [Int.mul_assoc, Int.mul_assoc, Int.mul_comm (x / p)]
    rw [this]
    exact Int.mul_emod_right _ _
theorem dv_nat (x n d : Nat) (hx : 0 < x) (h : n ∣ x * d) : n / Nat.gcd x n ∣ d := by
  have g0 : 0 < Nat.gcd x n := Nat.gcd_pos_of_pos_left _ hx
  have co := Nat.coprime_div_gcd_div_gcd g0
  have e1 : Nat.gcd x n * (x / Nat.gcd x n) = x := Nat.mul_div_cancel' (Nat.gcd_dvd_left _ _)
  have e2 : Nat.gcd x n * (n / Nat.gcd x n) = n := Nat.mul_div_cancel' (Nat.gcd_dvd_right _ _)
  have h2 : Nat.gcd x n * (n / Nat.gcd x n) ∣ Nat.gcd x n * (x / Nat.gcd x n * d) := by
    rw [e2, ← Nat.mul_assoc, e1]; exact h
  exact co.symm.dvd_of_dvd_mul_left (Nat.dvd_of_mul_dvd_mul_left g0 h2)
theorem not_weak {s n p : Int} (L : Least s n p) (x : Int) (h1 : 1 ≤ x) (h2 : x < p) : ¬ Weak x s n := by
  obtain ⟨p1, p2, p3, p4, p5⟩ := L
  rintro ⟨d, d1, d2, d3⟩
  have hn : 0 < n := by omega
  have g0 : 0 < Int.gcd x n := Int.gcd_pos_of_ne_zero_left _ (by omega)
  have gx : ((Int.gcd x n : Nat) : Int) ∣ x := Int.gcd_dvd_left _ _
  have gn : ((Int.gcd x n : Nat) : Int) ∣ n := Int.gcd_dvd_right _ _
  have gle : ((Int.gcd x n : Nat) : Int) ≤ x := Int.le_of_dvd (by omega) gx
  have big := p5 (Int.gcd x n) (by omega) (by omega) (Int.emod_eq_zero_of_dvd gn)
  have dv : n / ((Int.gcd x n : Nat) : Int) ∣ d := by
    have a : n ∣ x * d := Int.dvd_of_emod_eq_zero d3
    obtain ⟨X, rfl⟩ := Int.eq_ofNat_of_zero_le (show 0 ≤ x by omega)
    obtain ⟨N, rfl⟩ := Int.eq_ofNat_of_zero_le (show 0 ≤ n by omega)
    obtain ⟨E, rfl⟩ := Int.eq_ofNat_of_zero_le (show 0 ≤ d by omega)
    have a' : N ∣ X * E := by
      have := Int.natAbs_dvd_natAbs.mpr a
      simpa [Int.natAbs_mul] using this
    have := dv_nat X N E (by omega) a'
    rw [show Int.gcd (X : Int) (N : Int) = Nat.gcd X N from rfl]
    exact_mod_cast Int.natCast_dvd_natCast.mpr this
  have := Int.le_of_dvd (by omega) dv
  omega
/-- the rows are pairwise good -/
def Gd (s n : Int) (both : Bool) (r : List Int) : Prop := (∀ x ∈ r, ¬ Weak x s n) ∧ r.Pairwise fun a b => ¬ Weak (b - a) s n ∧ (both = true → ¬ Weak ((a + b) % n) s n)
theorem okAdd_iff {s n l : Int} {both : Bool} {row : List Int} : okAdd (fun i => wkB i s n) both n row l = true ↔ (∀ x ∈ row, ¬ Weak (l - x) s n ∧ (both = true → ¬ Weak ((l + x) % n) s n)) ∧ ¬ Weak l s n := by
  unfold okAdd
  rw [Bool.and_eq_true, List.isEmpty_iff, List.filter_eq_nil_iff]
  simp only [bad1, Bool.or_eq_true, Bool.and_eq_true, wkB_iff, not_or, not_and, Bool.not_eq_true']
  rw [← Bool.not_eq_true, wkB_iff]
theorem lev_gd (s : Int) (n : Nat) (both : Bool) : ∀ k, ∀ r ∈ lev (fun i => wkB i s n) both n k, r.length = k ∧ Gd s n both r
  | 0, r, h => by
    have : r = [] := by simpa [lev] using h
    subst this
    exact ⟨rfl, by simp, .nil⟩
  | k + 1, r, h => by
    obtain ⟨row, h1, h2⟩ := List.mem_flatMap.mp h
    obtain ⟨g1, g2, g3⟩ := lev_gd s n both k row h1
    unfold ext at h2
    obtain ⟨l, hl, rfl⟩ := List.mem_map.mp h2
    obtain ⟨h5, h6⟩ := okAdd_iff.mp (List.mem_filter.mp hl).2
    refine ⟨by simp [g1], fun x hx => ?_, List.pairwise_append.mpr ⟨g3, List.pairwise_singleton _ _, fun a ha b hb => ?_⟩⟩
    · rcases List.mem_append.mp hx with hx | hx
      · exact g2 x hx
      · rw [List.mem_singleton] at hx; subst hx; exact h6
    · rw [List.mem_singleton] at hb; subst hb
      rw [Int.add_comm a b]
      exact h5 a ha
theorem gd_len {s n p : Int} (L : Least s n p) {both : Bool} {r : List Int} (h : Gd s n both r) : (r.length : Int) ≤ if both then p / 2 else p - 1 := by
  have p1 := L.pos
  have nz : ∀ x ∈ r, x % p ≠ 0 := fun x hx z => h.1 x hx (weak_mul L x z)
  have lo : ∀ x : Int, 0 ≤ x % p := fun x => Int.emod_nonneg _ (by omega)
  have hi : ∀ x : Int, x % p < p := fun x => Int.emod_lt_of_pos _ (by omega)
  have ne : ∀ a b : Int, ¬ Weak (b - a) s n → a % p ≠ b % p := fun a b hw z => hw (weak_mul L _ (Int.emod_eq_emod_iff_emod_sub_eq_zero.mp z.symm))
  cases both with
  | false =>
    have := pigeon (p - 1).toNat (r.map (· % p)) (List.pairwise_map.mpr (h.2.imp fun {a b} hab => ne a b hab.1)) (fun y hy => by
      obtain ⟨x, hx, rfl⟩ := List.mem_map.mp hy
      have := nz x hx
      have := lo x
      have := hi x
      omega)
    rw [List.length_map] at this
    simp only [Bool.false_eq_true, if_false]
    omega
  | true =>
    have := pigeon (p / 2).toNat (r.map fun x => min (x % p) (p - x % p)) (List.pairwise_map.mpr (h.2.imp fun {a b} hab z => by
      have z : min (a % p) (p - a % p) = min (b % p) (p - b % p) := z
      have h1 := ne a b hab.1
      have h2 : (a + b) % p ≠ 0 := fun q => hab.2 rfl (weak_mul L _ (by rw [Int.emod_emod_of_dvd _ (Int.dvd_of_emod_eq_zero L.dvd)]; exact q))
      have h3 : ¬ (a % p + b % p = p) := fun q => h2 (by rw [Int.add_emod, q]; exact Int.emod_self)
      have := lo a
      have := hi a
      have := lo b
      have := hi b
      omega)) (fun y hy => by
      obtain ⟨x, hx, rfl⟩ := List.mem_map.mp hy
      have := nz x hx
      have := lo x
      have := hi x
      omega)
    rw [List.length_map] at this
    simp only [if_true]
    omega
def one (k : Nat) : List Int := (List.range k).map fun i : Nat => 1 + (i : Int)
theorem one_succ (k : Nat) : one (k + 1) = one k ++ [1 + (k : Int)] := by
  unfold one
  rw [List.range_succ, List.map_append]
  rfl
theorem start_one (k : Nat) : start (one k) ≤ 1 + (k : Int) := by
  cases k with
  | zero => simp [one, start]
  | succ k => rw [one_succ, start_app]; omega
theorem one_lev {s p : Int} {n : Nat} (L : Least s n p) (both : Bool) : ∀ k : Nat, (k : Int) ≤ (if both then p / 2 else p - 1) → one k ∈ lev (fun i => wkB i s n) both n k
  | 0, _ => by simp [one, lev]
  | k + 1, h => by
    have ple := L.le
    have hk : (k : Int) + 1 ≤ p - 1 := by
      have p1 := L.pos
      cases both with
      | false => simpa using h
      | true =>
        simp only [if_true] at h
        push_cast at h
        have : 2 ≤ p := by omega
        omega
    refine List.mem_flatMap.mpr ⟨one k, one_lev L both k (by push_cast at h; omega), ?_⟩
    unfold ext
    refine List.mem_map.mpr ⟨1 + (k : Int), List.mem_filter.mpr ⟨mem_rng.mpr ⟨start_one k, by omega⟩, okAdd_iff.mpr ⟨fun x hx => ?_, not_weak L _ (by omega) (by omega)⟩⟩, (one_succ k).symm⟩
    obtain ⟨i, hi, rfl⟩ := List.mem_map.mp hx
    have := List.mem_range.mp hi
    refine ⟨not_weak L _ (by omega) (by omega), fun hb => ?_⟩
    subst hb
    simp only [if_true] at h
    push_cast at h
    rw [Int.emod_eq_of_lt (by omega) (by omega)]
    exact not_weak L _ (by omega) (by omega)
theorem v_best2 {s p : Int} {n : Nat} (L : Least s n p) (both : Bool) (hn : 0 < n) (hn2 : n ≤ 15) (hs : 2 ≤ s) (hs2 : s ≤ 1000) : fr_law_best [.int n, .int s, .bl both] = .ok (.val (.int (if both then p / 2 else p - 1))) := by
  have p1 := L.pos
  have p2 := L.le
  have k0 : 0 ≤ (if both then p / 2 else p - 1) := by split <;> omega
  have k1 : (if both then p / 2 else p - 1) < 1000 := by split <;> omega
  have := v_best n s both (if both then p / 2 else p - 1).toNat hn hn2 hs hs2 (by omega) (fun k hk z => by
    have := one_lev L both (k + 1) (by omega)
    rw [z] at this
    simp at this) (by
    apply List.eq_nil_iff_forall_not_mem.mpr
    intro r hr
    obtain ⟨h1, h2⟩ := lev_gd s n both _ r hr
    have := gd_len L h2
    omega)
  rw [this, Int.toNat_of_nonneg k0]
/-! ### the law -/
theorem v_pair (s : Int) (n : Nat) (h1 : 2 ≤ s) (h2 : s ≤ 36) (h3 : 2 ≤ n) (h4 : n ≤ 15) : ∃ a b : Int, -1 ≤ a ∧ a ≤ 15 ∧ -1 ≤ b ∧ b ≤ 15 ∧ fr_p_longest [.int s, .int n, .bl false] = .ok (.val (.int a)) ∧ fr_p_longest [.int s, .int n, .bl true] = .ok (.val (.int b)) ∧ fr_law_best [.int n, .int s, .bl false] = .ok (.val (.int a)) ∧ fr_law_best [.int n, .int s, .bl true] = .ok (.val (.int b)) := by
  obtain ⟨p, L⟩ := least_ex s n h1 (by omega)
  have p1 := L.pos
  have p2 := L.le
  have a1 := v_longest s n p false h1 h2 (by omega) (by omega) L
  have a2 := v_longest s n p true h1 h2 (by omega) (by omega) L
  have a3 := v_best2 L false (by omega) h4 h1 (by omega)
  have a4 := v_best2 L true (by omega) h4 h1 (by omega)
  exact ⟨p - 1, p / 2, by omega, by omega, by omega, by omega, a1, a2, a3, a4⟩
theorem v_b1 (ns : List Int) (s : Int) (n : Nat) (h1 : 2 ≤ s) (h2 : s ≤ 36) (h3 : 2 ≤ n) (h4 : n ≤ 15) (b3 : Slot) : ∃ b3', fb_p_law_1 [.val (.scr ns), .val (.int s), .val (.int n), b3, .unb, .unb] = .nx [.val (.scr ns), .val (.int s), .val (.int n), b3', .unb, .unb] := by
  obtain ⟨a, b, a1, a2, b1, b2, e1, e2, e3, e4⟩ := v_pair s n h1 h2 h3 h4
  have lg : ∀ x : Int, -1 ≤ x → x ≤ 15 → x.natAbs.log2 < 1920 := fun x h h' => log2_lt (k := 1920) (Nat.lt_of_lt_of_le (by omega : x.natAbs < 2 ^ 8) (Nat.pow_le_pow_right (by decide) (by decide))) (by decide)
  obtain ⟨t, ht⟩ := repr_some (d := .lst [.int a, .int b]) (by simp [rK, rKs, lg a a1 a2, lg b b1 b2]) (by simp [rD, rDs]) (by simp [rN, rNs])
  refine ⟨.val (.lst [.int a, .int b]), seq_step (ρ1 := [.val (.scr ns), .val (.int s), .val (.int n), .val (.lst [.int a, .int b]), .unb, .unb]) ?_ ?_⟩
  · simp (disch := omega) [List.getElem?_cons_zero, List.getElem?_cons_succ, withL, Out.fm, P.mkArgs, P.putAll, e3, e4]
  · simp (disch := omega) [List.getElem?_cons_zero, List.getElem?_cons_succ, withL, Out.fm, P.mkArgs, P.putAll, e1, e2, ht]
theorem v_b2 (ns : List Int) (x y z : Slot) : ∃ x' y' z', forL (bName 1) fb_p_law_2 (rngL 2 6) [.val (.scr ns), x, y, z, .unb, .unb] = .nx [.val (.scr ns), x', y', z', .unb, .unb] := by
  obtain ⟨_, h, x', y', z', rfl⟩ := forL_inv (b := bName 1) (body := fb_p_law_2) (rngL 2 6) (fun _ ρ => ∃ x y z, ρ = [.val (.scr ns), x, y, z, .unb, .unb]) (by
    rintro i d ρ hd ⟨x, y, z, rfl⟩
    obtain ⟨h1, rfl⟩ := get_rngL hd
    obtain ⟨_, e, y', z', rfl⟩ := forL_inv (b := bName 2) (body := fb_p_law_1) (rngL 2 8) (fun _ ρ => ∃ y z, ρ = [.val (.scr ns), .val (.int (2 + (i : Int))), y, z, .unb, .unb]) (by
      rintro j d ρ hd ⟨y, z, rfl⟩
      obtain ⟨h2, rfl⟩ := get_rngL hd
      obtain ⟨b3', e⟩ := v_b1 ns (2 + i) (2 + j) (by omega) (by omega) (by omega) (by omega) z
      exact ⟨_, _, rfl, by simpa using e, _, _, rfl⟩) _ ⟨y, z, rfl⟩
    refine ⟨_, [.val (.scr ns), .val (.int (2 + (i : Int))), y', z', .unb, .unb], rfl, ?_, _, _, _, rfl⟩
    simp (disch := omega) [List.getElem?_cons_zero, List.getElem?_cons_succ, withL, Out.fm, P.mkArgs, P.putAll, fb_p_law_2, e]) _ ⟨x, y, z, rfl⟩
  exact ⟨x', y', z', h⟩
theorem v_b3 (ns : List Int) (x y z : Slot) (m : Nat) : ∃ x' y' a b, forL (bName 4) fb_p_law_3 (rngL 0 m) [.val (.scr ns), x, y, z, .unb, .unb] = .nx [.val (.scr ns), x', y', z, a, b] := by
  obtain ⟨_, h, x', y', a, b, rfl⟩ := forL_inv (b := bName 4) (body := fb_p_law_3) (rngL 0 m) (fun _ ρ => ∃ x y a b, ρ = [.val (.scr ns), x, y, z, a, b]) (by
    rintro i d ρ hd ⟨x, y, a, b, rfl⟩
    obtain ⟨h1, rfl⟩ := get_rngL hd
    obtain ⟨s, hs, es⟩ := v_cup ns i
    obtain ⟨r1, s1, r1a, r1b, c1, e1⟩ := v_sip (n := 9) hs (by omega) (by decide) (by decide)
    obtain ⟨r2, s2, r2a, r2b, c2, e2⟩ := v_sip (n := 6) c1 (by omega) (by decide) (by decide)
    obtain ⟨q, hq⟩ : ∃ q : Nat, 8 + r2 = (q : Int) := ⟨(8 + r2).toNat, by omega⟩
    obtain ⟨u, v, _, _, _, _, f1, f2, f3, f4⟩ := v_pair (6 + r1) q (by omega) (by omega) (by omega) (by omega)
    refine ⟨_, [.val (.scr ns), .val (.int (6 + r1)), .val (.int q), z, .val (.int (i : Int)), s2], by simp; rfl, ?_, _, _, _, _, rfl⟩
    refine seq_step (ρ1 := [.val (.scr ns), x, y, z, .val (.int (i : Int)), s]) ?_ (seq_step (ρ1 := [.val (.scr ns), .val (.int (6 + r1)), .val (.int q), z, .val (.int (i : Int)), s2]) ?_ (seq_step (ρ1 := [.val (.scr ns), .val (.int (6 + r1)), .val (.int q), z, .val (.int (i : Int)), s2]) ?_ ?_))
    · obtain ⟨_, _, _, rfl, _⟩ := hs
      simp (disch := omega) [List.getElem?_cons_zero, List.getElem?_cons_succ, withL, Out.fm, P.mkArgs, P.putAll, es]
    · obtain ⟨_, _, _, rfl, _⟩ := hs
      obtain ⟨_, _, _, rfl, _⟩ := c1
      obtain ⟨_, _, _, rfl, _⟩ := c2
      simp (disch := omega) [List.getElem?_cons_zero, List.getElem?_cons_succ, withL, Out.fm, P.mkArgs, P.putAll, e1, e2, hq]
    · simp (disch := omega) [List.getElem?_cons_zero, List.getElem?_cons_succ, withL, Out.fm, P.mkArgs, P.putAll, f1, f3]
    · simp (disch := omega) [List.getElem?_cons_zero, List.getElem?_cons_succ, withL, Out.fm, P.mkArgs, P.putAll, f2, f4]) _ ⟨x, y, _, _, rfl⟩
  exact ⟨x', y', a, b, h⟩
theorem good (ns : List Int) (hl : ns.length ≤ 63) : fr_p_law [.scr ns] = .ok (.val (.bl true)) := by
  obtain ⟨x, y, z, e1⟩ := v_b2 ns .unb .unb .unb
  obtain ⟨x', y', a, b, e2⟩ := v_b3 ns x y z (max 1 (min 2 (ns.length : Int))).toNat
  refine runP_rt (ρ := [.val (.scr ns), x', y', z, a, b]) rfl (seq_step (ρ1 := [.val (.scr ns), x, y, z, .unb, .unb]) ?_ (seq_step (ρ1 := [.val (.scr ns), x', y', z, a, b]) ?_ ?_))
  · simp (disch := omega) [List.getElem?_cons_zero, List.getElem?_cons_succ, withL, Out.fm, P.mkArgs, P.putAll, e1]
  · simp (disch := omega) [List.getElem?_cons_zero, List.getElem?_cons_succ, withL, Out.fm, P.mkArgs, P.putAll, e2]
  · simp (disch := omega) [List.getElem?_cons_zero, List.getElem?_cons_succ, withL, Out.fm, P.mkArgs, P.putAll]
end Lw
theorem PySem.Challenge.cw_checkdigits_k28_longest_by_all_weights_holds : PySem.Challenge.rw_checkdigits_k28_longest_by_all_weights.Holds := by
  exact Lw.end_ Lw.good
