import PyProof.Rows.All
import Wide.All
import OpenK.AllK
import Wide.FinOn
import KE.KStateDown
import HandS.ForMost
import HandS.Exc
import HandS.ExcCtx
import HandS.HotCalls
import HandS.SuiteRaise
import HandS.TryOnly
import HandS.TryMany
import HandS.Defaults
import HandS.IsInst
import HandS.Wide
import HandS.Star
import HandS.Property
import HandS.ClsMeth
import HandS.Head0
import HandS.Head1
import HandS.Head2
import HandS.HeadEnd
import HandS.HeadHook1
import HandS.HeadHook2
import HandS.TupAny
import HandS.TupMul
import HandS.TupLe
import HandS.Style
import HandS.Deep
import HandS.CallSlots
import HandS.AnyAll
import HandS.Zip
import HandS.Conv
import HandS.ExcOwn
import HandS.MakeKw
import HandS.MakeKwOnly
import PyProof.Rows.ReprR
import HandS.ExcInit
import HandS.Codes
import PyProof.InstNe
import OpenK.KMeth
import HandS.HeadNt
import HandS.More
import KE.GoesEnum
import HandS.ExcField
import HandS.ExcIs
import KE.KUnpackStar
import HandS.Dict
import HandS.Iter
import KE.SortData
import KE.DataMinMax
import HandS.Text
import HandS.SetFor
import HandS.Strs
import HandS.SetKeys
import PyProof.DictMoreH
import HandS.Replace
import KE.KExcIs
import HandS.ExcInitHot
import PyProof.StrReplace2
import PyProof.FactsAll.list
import PyProof.FactsAll.tuple
import PyProof.FactsAll.dict
import PyProof.FactsAll.bool
import PyProof.FactsAll.int
import PyProof.FactsAll.str
import PyProof.FactsAll.NoneType
import HandS.SetBool
import HandS.SortInts
import PyProof.WalksMore
import PyProof.FactsAll.subtypes_4
import HandS.DictComp
import PyProof.DictFindH
import KE.KDictZip
import PySem.Challenge.RW_checkdigits_k55_weights_written
set_option Elab.async false
set_option linter.all false
set_option maxRecDepth 100000
set_option maxHeartbeats 4000000
namespace P
open PySem PySem.Spec PyProof.Rows L2
inductive D where
  | non | bl (b : Bool) | int (i : Int) | str (x : Str)
  | tup (ds : List D) | lst (ds : List D)
  | dct (t l : Bool) (ks vs : List D)
  | ins (c : Str) (ns : List Str) (vs : List D)
  | scr (ns : List Int)
  | cls (c : Str)
  deriving Inhabited
structure ClsF (K : PySem.W.Frag) (c : Str) : Prop where
  cl : Cls K (He.ga K c)
  ha : PySem.W.findIn K (.ref (He.ga K c)) "__class__" = some (some (.builtin "object.__class__"))
  hn : PySem.W.specialIn K (.builtin "object.__class__") "__get__" = some (some (.builtin "getset_descriptor.__get__"))
  htk : PySem.W.takesIn K (.builtin "object.__class__") = some true
  hm : PySem.W.mroIn K (He.ga K c) (.type "object") = some true
  noB : ∀ T ∈ (["int", "bool", "str", "tuple", "list", "dict"] : List String), PySem.W.kitOne K (.ref (He.ga K c)) (.type T) = some false
  noT : ∀ T ∈ (["NoneType", "bool", "int", "str", "tuple", "list", "dict"] : List String), PySem.W.kitOne K (.type T) (.ref (He.ga K c)) = some false
  self : PySem.W.kitOne K (.ref (He.ga K c)) (.ref (He.ga K c)) = some true
def Ex (H H' : Hp) : Prop := ∀ a o, H a = some o → H' a = some o
theorem Ex.refl (H : Hp) : Ex H H := fun _ _ h => h
theorem Ex.trans {H H1 H2 : Hp} (a : Ex H H1) (b : Ex H1 H2) : Ex H H2 := fun x o h => b x o (a x o h)
theorem Ex.new {H : Hp} {p : Addr} {o : HO} (h : H p = none) : Ex H (upd H p o) := fun a u e => by
  rw [upd_ne (ne_of_none e h)]; exact e
theorem Ex.fresh {H H' : Hp} {p : Addr} (e : Ex H H') (h : H' p = none) : H p = none := by
  cases h1 : H p with
  | none => rfl
  | some o => rw [e p o h1] at h; cases h
theorem ex_rd {H H' : Hp} {a : Addr} {u : HO} (e : Ex H H') (h : Rd H a u) : Rd H' a u := by
  rcases h with h | ⟨o, h⟩
  · exact .inl (e a _ h)
  · exact .inr ⟨o, e a _ h⟩
theorem ex_l {K : PySem.W.Frag} {H H' : Hp} {a : Addr} {xs : List V} (e : Ex H H') (h : SqL K H a xs) : SqL K H' a xs := h.imp (ex_rd e) id
theorem ex_t {K : PySem.W.Frag} {H H' : Hp} {a : Addr} {xs : List V} (e : Ex H H') (h : SqT K H a xs) : SqT K H' a xs := h.imp (ex_rd e) id
def Al (o : Option HO) : Prop := o ≠ none ∧ ∀ xs, o ≠ some (.tup xs)
instance {o : Option HO} : Coe (Al o) (o ≠ none) := ⟨And.left⟩
instance {o : Option HO} : CoeFun (Al o) (fun _ => o = none → False) := ⟨And.left⟩
@[simp] theorem al_lst {xs : List V} : Al (some (.lst xs)) := ⟨nofun, nofun⟩
@[simp] theorem al_dK {kvs : List (Key × V)} : Al (some (.dK kvs)) := ⟨nofun, nofun⟩
@[simp] theorem al_dT {kvs : List (List Key × V)} : Al (some (.dT kvs)) := ⟨nofun, nofun⟩
@[simp] theorem al_ins {c dx : Addr} {fs : List (Str × V)} : Al (some (.ins c dx fs)) := ⟨nofun, nofun⟩
@[simp] theorem al_frz {od : Obj} {u : HO} : Al (some (.frz od u)) := ⟨nofun, nofun⟩
@[simp] theorem al_set {S : Int → Bool} {n : Nat} : Al (some (.set S n)) := ⟨nofun, nofun⟩
def hide (H : Hp) (S : List Addr) : Hp := fun a => if a ∈ S then none else H a
theorem hide_out {H : Hp} {S : List Addr} {a : Addr} (h : a ∉ S) : hide H S a = H a := by unfold hide; rw [if_neg h]
theorem hide_in {H : Hp} {S : List Addr} {a : Addr} (h : a ∈ S) : hide H S a = none := by unfold hide; rw [if_pos h]
theorem hide_some {H : Hp} {S : List Addr} {a : Addr} {o : HO} (h : hide H S a = some o) : a ∉ S ∧ H a = some o := by
  unfold hide at h
  split at h
  · cases h
  · rename_i n; exact ⟨n, h⟩
theorem hide_ex {H : Hp} {S : List Addr} : Ex (hide H S) H := fun _ _ h => (hide_some h).2
theorem hide_nil {H : Hp} : hide H [] = H := by funext a; exact hide_out (by simp)
theorem hide_mono {H H' : Hp} {S S' : List Addr} (e : Ex H H') (s : ∀ a ∈ S', a ∈ S ∨ H a = none) : Ex (hide H S) (hide H' S') := fun a o h => by
  obtain ⟨n, q⟩ := hide_some h
  rw [hide_out fun z => ?_]
  · exact e a o q
  · rcases s a z with r | r
    · exact n r
    · rw [q] at r; cases r
def keyD : Key → D
  | .inl i => .int i
  | .inr x => .str x
def Rdl (G : Hp) (a : Addr) (l : Bool) (u : HO) : Prop := if l = true then ∃ o, G a = some (.frz o u) else G a = some u
theorem ex_rdl {G G' : Hp} {a : Addr} {l : Bool} {u : HO} (e : Ex G G') (h : Rdl G a l u) : Rdl G' a l u := by
  unfold Rdl at *
  split
  · rename_i c; rw [if_pos c] at h; exact h.imp fun o q => e _ _ q
  · rename_i c; rw [if_neg c] at h; exact e _ _ h
mutual
inductive Rep (K : PySem.W.Frag) (G : Hp) : V → D → Prop
  | non : Rep K G .non .non
  | bl (b : Bool) : Rep K G (.bl b) (.bl b)
  | int (i : Int) : Rep K G (.int i) (.int i)
  | str (x : Str) : Rep K G (.str x) (.str x)
  | tup {a : Addr} {xs : List V} {ds : List D} (h : G a = some (.tup xs)) (r : Reps K G xs ds) : Rep K G (.ref a) (.tup ds)
  | lst {a : Addr} {xs : List V} {ds : List D} (h : G a = some (.lst xs)) (r : Reps K G xs ds) : Rep K G (.ref a) (.lst ds)
  | scr {a : Addr} {ns : List Int} (h : SqL K G a (ns.map V.int)) : Rep K G (.ref a) (.scr ns)
  | cls (c : Str) : Rep K G (.ref (He.ga K c)) (.cls c)
  | dK {a : Addr} {l : Bool} {kvs : List (Key × V)} {vs : List D} (h : Rdl G a l (.dK kvs)) (r : Reps K G (kvs.map (·.2)) vs) : Rep K G (.ref a) (.dct false l (kvs.map fun kv => keyD kv.1) vs)
  | dT {a : Addr} {kvs : List (List Key × V)} {vs : List D} (h : G a = some (.dT kvs)) (r : Reps K G (kvs.map (·.2)) vs) : Rep K G (.ref a) (.dct true false (kvs.map fun kv => .tup (kv.1.map keyD)) vs)
  | ins {a dx : Addr} {c : Str} {fs : List (Str × V)} {vs : List D} (h : G a = some (.ins (He.ga K c) dx fs)) (r : Reps K G (fs.map (·.2)) vs) (hc : ClsF K c) : Rep K G (.ref a) (.ins c (fs.map (·.1)) vs)
inductive Reps (K : PySem.W.Frag) (G : Hp) : List V → List D → Prop
  | nil : Reps K G [] []
  | cons {x : V} {d : D} {xs : List V} {ds : List D} (h : Rep K G x d) (r : Reps K G xs ds) : Reps K G (x :: xs) (d :: ds)
end
section
variable {K : PySem.W.Frag} {G G' : Hp}
mutual
theorem Rep.mono (e : Ex G G') : ∀ {v : V} {d : D}, Rep K G v d → Rep K G' v d
  | _, _, .non => .non
  | _, _, .bl b => .bl b
  | _, _, .int i => .int i
  | _, _, .str x => .str x
  | _, _, .tup h r => .tup (e _ _ h) (Reps.mono e r)
  | _, _, .lst h r => .lst (e _ _ h) (Reps.mono e r)
  | _, _, .scr h => .scr (ex_l e h)
  | _, _, .cls c => .cls c
  | _, _, .dK h r => .dK (ex_rdl e h) (Reps.mono e r)
  | _, _, .dT h r => .dT (e _ _ h) (Reps.mono e r)
  | _, _, .ins h r hc => .ins (e _ _ h) (Reps.mono e r) hc
theorem Reps.mono (e : Ex G G') : ∀ {xs : List V} {ds : List D}, Reps K G xs ds → Reps K G' xs ds
  | _, _, .nil => .nil
  | _, _, .cons h r => .cons (Rep.mono e h) (Reps.mono e r)
end
theorem Reps.length : ∀ {xs : List V} {ds : List D}, Reps K G xs ds → xs.length = ds.length
  | _, _, .nil => rfl
  | _, _, .cons _ r => congrArg (· + 1) (Reps.length r)
theorem Reps.get : ∀ {xs : List V} {ds : List D} {i : Nat} {d : D}, Reps K G xs ds → ds[i]? = some d → ∃ x, xs[i]? = some x ∧ Rep K G x d
  | _, _, _, _, .nil, e => by simp at e
  | _, _, 0, _, .cons h _, e => by simp at e; subst e; exact ⟨_, rfl, h⟩
  | _, _, i + 1, _, .cons _ r, e => by
    obtain ⟨x, h1, h2⟩ := Reps.get (i := i) r (by simpa using e)
    exact ⟨x, by simpa using h1, h2⟩
theorem Reps.append : ∀ {xs ys : List V} {ds es : List D}, Reps K G xs ds → Reps K G ys es → Reps K G (xs ++ ys) (ds ++ es)
  | _, _, _, _, .nil, s => s
  | _, _, _, _, .cons h r, s => .cons h (Reps.append r s)
theorem Reps.take : ∀ {xs : List V} {ds : List D} (n : Nat), Reps K G xs ds → Reps K G (xs.take n) (ds.take n)
  | _, _, 0, _ => .nil
  | _, _, _ + 1, .nil => .nil
  | _, _, n + 1, .cons h r => .cons h (Reps.take n r)
theorem Reps.drop : ∀ {xs : List V} {ds : List D} (n : Nat), Reps K G xs ds → Reps K G (xs.drop n) (ds.drop n)
  | _, _, 0, r => r
  | _, _, _ + 1, .nil => .nil
  | _, _, n + 1, .cons _ r => Reps.drop n r
theorem Reps.reverse : ∀ {xs : List V} {ds : List D}, Reps K G xs ds → Reps K G xs.reverse ds.reverse
  | _, _, .nil => .nil
  | _, _, .cons h r => by rw [List.reverse_cons, List.reverse_cons]; exact Reps.append (Reps.reverse r) (.cons h .nil)
theorem Reps.set : ∀ {xs : List V} {ds : List D} {x : V} {d : D} (i : Nat), Reps K G xs ds → Rep K G x d → Reps K G (xs.set i x) (ds.set i d)
  | _, _, _, _, _, .nil, _ => .nil
  | _, _, _, _, 0, .cons _ r, q => .cons q r
  | _, _, _, _, i + 1, .cons h r, q => .cons h (Reps.set i r q)
theorem Reps.split : ∀ {xs : List V} {ds es : List D}, Reps K G xs (ds ++ es) → ∃ ys zs, xs = ys ++ zs ∧ Reps K G ys ds ∧ Reps K G zs es
  | xs, [], es, h => ⟨[], xs, rfl, .nil, h⟩
  | _, d :: ds, es, h => by
    cases h with
    | cons h r =>
      obtain ⟨ys, zs, e, h1, h2⟩ := Reps.split r
      exact ⟨_ :: ys, zs, by rw [e]; rfl, .cons h h1, h2⟩
theorem reps_ints : ∀ (ns : List Int), Reps K G (ns.map V.int) (ns.map D.int)
  | [] => .nil
  | n :: r => .cons (.int n) (reps_ints r)
end
structure Err where
  cls : Str
  ns : List Str
  vs : List D
structure ErrRep (K : PySem.W.Frag) (G : Hp) (c : Value) (dd : Option Addr) (e : Err) : Prop where
  cls : c = .ref (He.ga K e.cls)
  fs : (e.ns = [] ∧ dd = none) ∨ ∃ dx vs, dd = some dx ∧ G dx = some (.xd vs) ∧ vs.map (·.1) = e.ns ∧ Reps K G (vs.map (·.2)) e.vs
theorem ErrRep.mono {K : PySem.W.Frag} {G G' : Hp} {c : Value} {dd : Option Addr} {e : Err} (x : Ex G G') (h : ErrRep K G c dd e) : ErrRep K G' c dd e :=
  ⟨h.cls, h.fs.imp id fun ⟨dx, vs, h1, h2, h3, h4⟩ => ⟨dx, vs, h1, x _ _ h2, h3, h4.mono x⟩⟩
inductive Slot where
  | unb
  | val (d : D)
  | ownL (ss : List Slot)
  | ownD (t : Bool) (ks vs : List D)
  | ownI (c : Str) (ns : List Str) (ss : List Slot)
  | exc (a : Addr) (c : Value) (d : Option Addr) (e : Err)
  deriving Inhabited
mutual
def Slot.fz : Slot → Option D
  | .unb => none
  | .val d => some d
  | .ownL ss => (fzs ss).map .lst
  | .ownD t ks vs => some (.dct t false ks vs)
  | .ownI c ns ss => (fzs ss).map (.ins c ns)
  | .exc _ _ _ _ => none
def fzs : List Slot → Option (List D)
  | [] => some []
  | s :: r => match s.fz, fzs r with
    | some d, some ds => some (d :: ds)
    | _, _ => none
end
mutual
/-- v bears the slot s at H: what it owns is fp, all else lies in G -/
inductive RelS (K : PySem.W.Frag) (G H : Hp) : List Addr → V → Slot → Prop
  | val {v : V} {d : D} (h : Rep K G v d) : RelS K G H [] v (.val d)
  | ownL {a : Addr} {xs : List V} {ss : List Slot} {fp : List Addr} (h : H a = some (.lst xs)) (r : RelSs K G H fp xs ss) : RelS K G H (a :: fp) (.ref a) (.ownL ss)
  | ownK {a : Addr} {kvs : List (Key × V)} {vs : List D} (h : H a = some (.dK kvs)) (r : Reps K G (kvs.map (·.2)) vs) : RelS K G H [a] (.ref a) (.ownD false (kvs.map fun kv => keyD kv.1) vs)
  | ownT {a : Addr} {kvs : List (List Key × V)} {vs : List D} (h : H a = some (.dT kvs)) (r : Reps K G (kvs.map (·.2)) vs) : RelS K G H [a] (.ref a) (.ownD true (kvs.map fun kv => .tup (kv.1.map keyD)) vs)
  | ownI {a dx : Addr} {c : Str} {fs : List (Str × V)} {ss : List Slot} {fp : List Addr} (h : H a = some (.ins (He.ga K c) dx fs)) (r : RelSs K G H fp (fs.map (·.2)) ss) (hc : ClsF K c) : RelS K G H (a :: fp) (.ref a) (.ownI c (fs.map (·.1)) ss)
  | exc {a : Addr} {c : Value} {d : Option Addr} {e : Err} (h : ErrRep K G c d e) : RelS K G H [] (.ref a) (.exc a c d e)
inductive RelSs (K : PySem.W.Frag) (G H : Hp) : List Addr → List V → List Slot → Prop
  | nil : RelSs K G H [] [] []
  | cons {f g : List Addr} {x : V} {s : Slot} {xs : List V} {ss : List Slot} (h : RelS K G H f x s) (r : RelSs K G H g xs ss) : RelSs K G H (f ++ g) (x :: xs) (s :: ss)
end
section
variable {K : PySem.W.Frag} {G G' H H' : Hp}
mutual
theorem RelS.mono (e : Ex G G') : ∀ {fp : List Addr} {v : V} {s : Slot}, RelS K G H fp v s → (∀ a ∈ fp, H' a = H a) → RelS K G' H' fp v s
  | _, _, _, .val h, _ => .val (h.mono e)
  | _, _, _, .ownL h r, k => .ownL ((k _ (by simp)).trans h) (RelSs.mono e r fun a ha => k a (by simp [ha]))
  | _, _, _, .ownK h r, k => .ownK ((k _ (by simp)).trans h) (r.mono e)
  | _, _, _, .ownT h r, k => .ownT ((k _ (by simp)).trans h) (r.mono e)
  | _, _, _, .ownI h r hc, k => .ownI ((k _ (by simp)).trans h) (RelSs.mono e r fun a ha => k a (by simp [ha])) hc
  | _, _, _, .exc h, _ => .exc (h.mono e)
theorem RelSs.mono (e : Ex G G') : ∀ {fp : List Addr} {xs : List V} {ss : List Slot}, RelSs K G H fp xs ss → (∀ a ∈ fp, H' a = H a) → RelSs K G' H' fp xs ss
  | _, _, _, .nil, _ => .nil
  | _, _, _, .cons h r, k => .cons (RelS.mono e h fun a ha => k a (by simp [ha])) (RelSs.mono e r fun a ha => k a (by simp [ha]))
end
mutual
/-- what is owned stands there -/
theorem RelS.there : ∀ {fp : List Addr} {v : V} {s : Slot}, RelS K G H fp v s → ∀ a ∈ fp, Al (H a)
  | _, _, _, .val h, _, q => by simp at q
  | _, _, _, .ownL h r, a, q => by
    rcases List.mem_cons.mp q with rfl | q
    · rw [h]; simp
    · exact RelSs.there r a q
  | _, _, _, .ownK h r, a, q => by
    rcases List.mem_cons.mp q with rfl | q
    · rw [h]; simp
    · simp at q
  | _, _, _, .ownT h r, a, q => by
    rcases List.mem_cons.mp q with rfl | q
    · rw [h]; simp
    · simp at q
  | _, _, _, .ownI h r _, a, q => by
    rcases List.mem_cons.mp q with rfl | q
    · rw [h]; simp
    · exact RelSs.there r a q
  | _, _, _, .exc h, _, q => by simp at q
theorem RelSs.there : ∀ {fp : List Addr} {xs : List V} {ss : List Slot}, RelSs K G H fp xs ss → ∀ a ∈ fp, Al (H a)
  | _, _, _, .nil, _, q => by simp at q
  | _, _, _, .cons h r, a, q => by
    rcases List.mem_append.mp q with q | q
    · exact RelS.there h a q
    · exact RelSs.there r a q
end
mutual
/-- frozen: G' holds all of it -/
theorem RelS.fz (e : Ex G G') : ∀ {fp : List Addr} {v : V} {s : Slot} {d : D}, RelS K G H fp v s → (∀ a ∈ fp, G' a = H a) → s.fz = some d → Rep K G' v d
  | _, _, .val d', d, .val h, _, q => by simp only [Slot.fz, Option.some.injEq] at q; subst q; exact h.mono e
  | _, _, .ownL ss, d, .ownL h r, k, q => by
    simp only [Slot.fz, Option.map_eq_some_iff] at q
    obtain ⟨ds, q1, rfl⟩ := q
    exact .lst ((k _ (by simp)).trans h) (RelSs.fz e r (fun a ha => k a (by simp [ha])) q1)
  | _, _, .ownD _ _ _, d, .ownK h r, k, q => by
    simp only [Slot.fz, Option.some.injEq] at q; subst q
    exact .dK ((k _ (by simp)).trans h) (r.mono e)
  | _, _, .ownD _ _ _, d, .ownT h r, k, q => by
    simp only [Slot.fz, Option.some.injEq] at q; subst q
    exact .dT ((k _ (by simp)).trans h) (r.mono e)
  | _, _, _, d, .ownI h r hc, k, q => by
    simp only [Slot.fz, Option.map_eq_some_iff] at q
    obtain ⟨ds, q1, rfl⟩ := q
    exact .ins ((k _ (by simp)).trans h) (RelSs.fz e r (fun a ha => k a (by simp [ha])) q1) hc
  | _, _, .exc _ _ _ _, d, .exc h, k, q => by simp only [Slot.fz] at q; cases q
theorem RelSs.fz (e : Ex G G') : ∀ {fp : List Addr} {xs : List V} {ss : List Slot} {ds : List D}, RelSs K G H fp xs ss → (∀ a ∈ fp, G' a = H a) → fzs ss = some ds → Reps K G' xs ds
  | _, _, [], ds, .nil, _, q => by simp only [fzs, Option.some.injEq] at q; subst q; exact .nil
  | _, _, s :: ss, ds, .cons h r, k, q => by
    simp only [fzs] at q
    split at q
    · rename_i d ds' q1 q2
      simp only [Option.some.injEq] at q; subst q
      exact .cons (RelS.fz e h (fun a ha => k a (by simp [ha])) q1) (RelSs.fz e r (fun a ha => k a (by simp [ha])) q2)
    · cases q
end
theorem RelSs.vals : ∀ {ds : List D} {fp : List Addr} {xs : List V}, RelSs K G H fp xs (ds.map .val) → fp = [] ∧ Reps K G xs ds
  | [], _, _, .nil => ⟨rfl, .nil⟩
  | _ :: _, _, _, .cons h r => by
    obtain ⟨e, q⟩ := RelSs.vals r
    cases h with
    | val h => exact ⟨by rw [e]; rfl, .cons h q⟩
theorem relSs_vals : ∀ {ds : List D} {xs : List V}, Reps K G xs ds → RelSs K G H [] xs (ds.map .val)
  | [], _, .nil => .nil
  | _ :: _, _, .cons h r => .cons (.val h) (relSs_vals r)
theorem RelSs.length : ∀ {fp : List Addr} {xs : List V} {ss : List Slot}, RelSs K G H fp xs ss → xs.length = ss.length
  | _, _, _, .nil => rfl
  | _, _, _, .cons _ r => congrArg (· + 1) (RelSs.length r)
end
theorem fzs_vals : ∀ ds : List D, fzs (ds.map .val) = some ds
  | [] => rfl
  | d :: ds => by simp only [List.map_cons, fzs, Slot.fz, fzs_vals ds]
abbrev Env := List Slot
inductive RelE (K : PySem.W.Frag) (G H : Hp) : List Addr → L2.St → Env → Prop
  | nil : RelE K G H [] [] []
  | unb {g : List Addr} {o : Option V} {σ : L2.St} {ρ : Env} (r : RelE K G H g σ ρ) : RelE K G H g (o :: σ) (.unb :: ρ)
  | cons {f g : List Addr} {v : V} {s : Slot} {σ : L2.St} {ρ : Env} (h : RelS K G H f v s) (r : RelE K G H g σ ρ) : RelE K G H (f ++ g) (some v :: σ) (s :: ρ)
section
variable {K : PySem.W.Frag} {G G' H H' : Hp}
theorem RelE.mono (e : Ex G G') : ∀ {W : List Addr} {σ : L2.St} {ρ : Env}, RelE K G H W σ ρ → (∀ a ∈ W, H' a = H a) → RelE K G' H' W σ ρ
  | _, _, _, .nil, _ => .nil
  | _, _, _, .unb r, k => .unb (r.mono e k)
  | _, _, _, .cons h r, k => .cons (h.mono e fun a ha => k a (by simp [ha])) (r.mono e fun a ha => k a (by simp [ha]))
theorem RelE.there : ∀ {W : List Addr} {σ : L2.St} {ρ : Env}, RelE K G H W σ ρ → ∀ a ∈ W, Al (H a)
  | _, _, _, .nil, _, q => by simp at q
  | _, _, _, .unb r, a, q => r.there a q
  | _, _, _, .cons h r, a, q => (List.mem_append.mp q).elim (h.there a) (r.there a)
theorem RelE.length : ∀ {W : List Addr} {σ : L2.St} {ρ : Env}, RelE K G H W σ ρ → σ.length = ρ.length
  | _, _, _, .nil => rfl
  | _, _, _, .unb r => congrArg (· + 1) r.length
  | _, _, _, .cons _ r => congrArg (· + 1) r.length
theorem RelE.get : ∀ {W : List Addr} {σ : L2.St} {ρ : Env} {i : Nat} {s : Slot}, RelE K G H W σ ρ → ρ[i]? = some s → s ≠ .unb →
    ∃ (v : V) (A f B : List Addr), σ[i]? = some (some v) ∧ W = A ++ f ++ B ∧ RelS K G H f v s
  | _, _, _, _, _, .nil, e, _ => by simp at e
  | _, _, _, 0, _, .unb r, e, n => by simp at e; exact absurd e.symm n
  | _, _, _, 0, _, .cons (f := f) (g := g) h r, e, _ => by simp at e; subst e; exact ⟨_, [], f, g, rfl, rfl, h⟩
  | _, _, _, i + 1, _, .unb r, e, n => by
    obtain ⟨v, A, f, B, h1, h2, h3⟩ := r.get (i := i) (by simpa using e) n
    exact ⟨v, A, f, B, by simpa using h1, h2, h3⟩
  | _, _, _, i + 1, _, .cons (f := g) h r, e, n => by
    obtain ⟨v, A, f, B, h1, h2, h3⟩ := r.get (i := i) (by simpa using e) n
    exact ⟨v, g ++ A, f, B, by simpa using h1, by rw [h2]; simp, h3⟩
theorem RelE.set : ∀ {W : List Addr} {σ : L2.St} {ρ : Env} (i : Nat) {v : V} {s : Slot} {f : List Addr}, RelE K G H W σ ρ → RelS K G H f v s → i < ρ.length →
    ∃ A B C : List Addr, W = A ++ B ++ C ∧ RelE K G H (A ++ f ++ C) (σ.set i (some v)) (ρ.set i s)
  | _, _, _, _, _, _, _, .nil, _, l => by simp at l
  | _, _, _, 0, _, _, f, .unb (g := g) r, q, _ => ⟨[], [], g, rfl, by simpa using RelE.cons q r⟩
  | _, _, _, 0, _, _, f, .cons (f := f0) (g := g) h r, q, _ => ⟨[], f0, g, rfl, by simpa using RelE.cons q r⟩
  | _, _, _, i + 1, _, _, f, .unb r, q, l => by
    obtain ⟨A, B, C, h1, h2⟩ := r.set i q (by simpa using l)
    exact ⟨A, B, C, h1, .unb h2⟩
  | _, _, _, i + 1, _, _, f, .cons (f := f0) h r, q, l => by
    obtain ⟨A, B, C, h1, h2⟩ := r.set i q (by simpa using l)
    exact ⟨f0 ++ A, B, C, by rw [h1]; simp, by simpa using RelE.cons h h2⟩
theorem RelE.drop : ∀ {W : List Addr} {σ : L2.St} {ρ : Env} (i : Nat) (o : Option V), RelE K G H W σ ρ →
    ∃ A B C : List Addr, W = A ++ B ++ C ∧ RelE K G H (A ++ C) (σ.set i o) (ρ.set i .unb)
  | _, _, _, _, _, .nil => ⟨[], [], [], rfl, .nil⟩
  | _, _, _, 0, _, .unb (g := g) r => ⟨[], [], g, rfl, .unb r⟩
  | _, _, _, 0, _, .cons (f := f0) (g := g) h r => ⟨[], f0, g, rfl, .unb r⟩
  | _, _, _, i + 1, o, .unb r => by
    obtain ⟨A, B, C, h1, h2⟩ := r.drop i o
    exact ⟨A, B, C, h1, .unb h2⟩
  | _, _, _, i + 1, o, .cons (f := f0) h r => by
    obtain ⟨A, B, C, h1, h2⟩ := r.drop i o
    exact ⟨f0 ++ A, B, C, by rw [h1]; simp, by simpa using RelE.cons h h2⟩
end
structure Rl (K : PySem.W.Frag) (L W : List Addr) (ρ : Env) (σ : L2.St) (H : Hp) : Prop where
  rel : RelE K (hide H (W ++ L)) H W σ ρ
  nd : W.Nodup
  dj : ∀ a ∈ L, a ∉ W
  lk : ∀ a ∈ L, Al (H a)
structure Stp (L W : List Addr) (H : Hp) (W' : List Addr) (H' : Hp) : Prop where
  ex : Ex (hide H (W ++ L)) (hide H' (W' ++ L))
  new : ∀ a ∈ W', a ∈ W ∨ H a = none
  lk : ∀ a ∈ L, H' a = H a
section
variable {K : PySem.W.Frag} {L W W1 W2 : List Addr} {ρ : Env} {σ : L2.St} {H H1 H2 : Hp}
theorem Stp.refl : Stp L W H W H := ⟨Ex.refl _, fun _ h => .inl h, fun _ _ => rfl⟩
theorem Rl.alloc (r : Rl K L W ρ σ H) : ∀ a ∈ W ++ L, Al (H a) := fun a h => (List.mem_append.mp h).elim (r.rel.there a) (r.lk a)
theorem Stp.of_ex (al : ∀ a ∈ W ++ L, Al (H a)) (e : Ex H H1) : Stp L W H W H1 := ⟨hide_mono e fun a h => .inl h, fun _ h => .inl h, fun a h => by
  cases q : H a with
  | none => exact absurd q (al a (by simp [h]))
  | some o => exact e a o q⟩
theorem Rl.ex (r : Rl K L W ρ σ H) (e : Ex H H1) : Rl K L W ρ σ H1 := by
  have k : ∀ a ∈ W ++ L, H1 a = H a := fun a h => by
    cases q : H a with
    | none => exact absurd q (r.alloc a h)
    | some o => exact e a o q
  exact ⟨r.rel.mono (hide_mono e fun a h => .inl h) fun a h => k a (by simp [h]), r.nd, r.dj, fun a h => by rw [k a (by simp [h])]; exact r.lk a h⟩
theorem Rl.stp (r : Rl K L W ρ σ H) (e : Ex H H1) : Stp L W H W H1 := .of_ex r.alloc e
theorem Stp.trans (a : Stp L W H W1 H1) (b : Stp L W1 H1 W2 H2) : Stp L W H W2 H2 := by
  refine ⟨a.ex.trans b.ex, fun x hx => ?_, fun x hx => (b.lk x hx).trans (a.lk x hx)⟩
  rcases b.new x hx with h | h
  · exact a.new x h
  · cases q : H x with
    | none => exact .inr rfl
    | some o =>
      by_cases m : x ∈ W ++ L
      · rcases List.mem_append.mp m with m | m
        · exact .inl m
        · have := a.lk x m
          rw [h, q] at this; cases this
      · have := a.ex x o (by rw [hide_out m]; exact q)
        rw [(hide_some this).2] at h; cases h
theorem Stp.rep (a : Stp L W H W1 H1) {v : V} {d : D} (h : Rep K (hide H (W ++ L)) v d) : Rep K (hide H1 (W1 ++ L)) v d := h.mono a.ex
theorem Stp.reps (a : Stp L W H W1 H1) {v : List V} {d : List D} (h : Reps K (hide H (W ++ L)) v d) : Reps K (hide H1 (W1 ++ L)) v d := h.mono a.ex
theorem Rl.less (r : Rl K L W ρ σ H) {A B C : List Addr} {ρ' : Env} {σ' : L2.St} (e : W = A ++ B ++ C) (h : RelE K (hide H (W ++ L)) H (A ++ C) σ' ρ') : Rl K L (A ++ C) ρ' σ' H ∧ Stp L W H (A ++ C) H := by
  subst e
  have sub : ∀ a ∈ A ++ C, a ∈ A ++ B ++ C := fun a h => by simp only [List.mem_append] at h ⊢; rcases h with h | h <;> simp [h]
  have nd : (A ++ C).Nodup := by
    have := r.nd
    rw [List.append_assoc] at this
    obtain ⟨h1, h2, h3⟩ := List.nodup_append.mp this
    obtain ⟨_, h4, _⟩ := List.nodup_append.mp h2
    exact List.nodup_append.mpr ⟨h1, h4, fun a ha b hb => h3 a ha b (by simp [hb])⟩
  have ex : Ex (hide H ((A ++ B ++ C) ++ L)) (hide H ((A ++ C) ++ L)) := hide_mono (Ex.refl _) fun a h => by
    simp only [List.mem_append] at h ⊢
    rcases h with (h | h) | h <;> simp [h]
  exact ⟨⟨h.mono ex fun _ _ => rfl, nd, fun a ha q => r.dj a ha (sub a q), r.lk⟩, ⟨ex, fun a h => .inl (sub a h), fun _ _ => rfl⟩⟩
end
end P
namespace P
open PySem PySem.Spec PyProof.Rows L2
inductive Res (α : Type) where
  | ok (a : α) (ρ : Env)
  | er (e : Err) (ρ : Env)
  | stuck
abbrev M (α : Type) := Env → Res α
@[simp] def Res.bd {α β : Type} (r : Res α) (k : α → Env → Res β) : Res β := match r with
  | .ok a ρ => k a ρ
  | .er e ρ => .er e ρ
  | .stuck => .stuck
@[simp] def Res.map {α β : Type} (f : α → β) (r : Res α) : Res β := match r with
  | .ok a ρ => .ok (f a) ρ
  | .er e ρ => .er e ρ
  | .stuck => .stuck
@[simp] def ofO {α : Type} (o : Option α) : M α := fun ρ => match o with
  | some a => .ok a ρ
  | none => .stuck
@[simp] def vl (m : M D) : M Slot := fun ρ => (m ρ).map Slot.val
inductive Out where
  | nx (ρ : Env)
  | rt (s : Slot) (ρ : Env)
  | bk (ρ : Env)
  | ct (ρ : Env)
  | er (e : Err) (ρ : Env)
  | stuck
abbrev S := Env → Out
section
variable (K : PySem.W.Frag) (Wx : WX)
def Post (σ : L2.St) (L W : List Addr) (H : Hp) (Q : VK) : Res Slot → Prop
  | .ok s ρ' => ∀ v W' H', Stp L W H W' H' → Rl K L W' (s :: ρ') (some v :: σ) H' → Q v H'
  | .er e ρ' => ∀ c dd W' H', Stp L W H W' H' → Rl K L W' ρ' σ H' → ErrRep K (hide H' (W' ++ L)) c dd e → Wx c dd σ H'
  | .stuck => False
def tE (m : M Slot) : TE := fun σ H Q => ∃ ρ L W, Rl K L W ρ σ H ∧ Post K Wx σ L W H Q (m ρ)
def PostT (σ : L2.St) (L W : List Addr) (H : Hp) (Q : Bool → Hp → Prop) : Res Bool → Prop
  | .ok b ρ' => ∀ W' H', Stp L W H W' H' → Rl K L W' ρ' σ H' → Q b H'
  | .er e ρ' => ∀ c dd W' H', Stp L W H W' H' → Rl K L W' ρ' σ H' → ErrRep K (hide H' (W' ++ L)) c dd e → Wx c dd σ H'
  | .stuck => False
def tB' (m : M Bool) : TT := fun σ H Q => ∃ ρ L W, Rl K L W ρ σ H ∧ PostT K Wx σ L W H Q (m ρ)
def PostA (σ : L2.St) (L W : List Addr) (H : Hp) (Q : List V → Hp → Prop) : Res (List D) → Prop
  | .ok ds ρ' => ∀ vs W' H', Stp L W H W' H' → Rl K L W' ρ' σ H' → Reps K (hide H' (W' ++ L)) vs ds → Q vs H'
  | .er e ρ' => ∀ c dd W' H', Stp L W H W' H' → Rl K L W' ρ' σ H' → ErrRep K (hide H' (W' ++ L)) c dd e → Wx c dd σ H'
  | .stuck => False
def tA (m : M (List D)) : TA := fun σ H Q => ∃ ρ L W, Rl K L W ρ σ H ∧ PostA K Wx σ L W H Q (m ρ)
def Ag (J : List Nat) (σ σ' : L2.St) : Prop := σ'.length = σ.length ∧ ∀ j ∈ J, σ'[j]? = σ[j]?
def PostS (J : List Nat) (σ : L2.St) (L W : List Addr) (H : Hp) (E : Ends) : Out → Prop
  | .nx ρ' => ∀ σ' W' H', Ag J σ σ' → Stp L W H W' H' → Rl K L W' ρ' σ' H' → E.nx σ' H'
  | .bk ρ' => ∀ σ' W' H', Ag J σ σ' → Stp L W H W' H' → Rl K L W' ρ' σ' H' → E.bk σ' H'
  | .ct ρ' => ∀ σ' W' H', Ag J σ σ' → Stp L W H W' H' → Rl K L W' ρ' σ' H' → E.ct σ' H'
  | .rt s ρ' => ∀ v σ' W' H', Ag J σ σ' → Stp L W H W' H' → Rl K L W' (s :: ρ') (some v :: σ') H' → E.rt v H'
  | .er e ρ' => ∀ c dd σ' W' H', Ag J σ σ' → Stp L W H W' H' → Rl K L W' ρ' σ' H' → ErrRep K (hide H' (W' ++ L)) c dd e → Wx c dd σ' H'
  | .stuck => False
def tS (J : List Nat) (m : S) : TS := fun E σ H => ∃ ρ L W, Rl K L W ρ σ H ∧ PostS K Wx J σ L W H E (m ρ)
end
theorem Ag.refl {J : List Nat} {σ : L2.St} : Ag J σ σ := ⟨rfl, fun _ _ => rfl⟩
theorem Ag.trans {J : List Nat} {σ σ1 σ2 : L2.St} (a : Ag J σ σ1) (b : Ag J σ1 σ2) : Ag J σ σ2 := ⟨b.1.trans a.1, fun j h => (b.2 j h).trans (a.2 j h)⟩
section
variable {K : PySem.W.Frag} {Wx : WX} {σ : L2.St} {L W W1 : List Addr} {H H1 : Hp}
theorem Post.step {Q : VK} (a : Stp L W H W1 H1) : ∀ {r : Res Slot}, Post K Wx σ L W H Q r → Post K Wx σ L W1 H1 Q r
  | .ok _ _, h => fun v W' H' st rl => h v W' H' (a.trans st) rl
  | .er _ _, h => fun c dd W' H' st rl er => h c dd W' H' (a.trans st) rl er
  | .stuck, h => h
theorem PostT.step {Q : Bool → Hp → Prop} (a : Stp L W H W1 H1) : ∀ {r : Res Bool}, PostT K Wx σ L W H Q r → PostT K Wx σ L W1 H1 Q r
  | .ok _ _, h => fun W' H' st rl => h W' H' (a.trans st) rl
  | .er _ _, h => fun c dd W' H' st rl er => h c dd W' H' (a.trans st) rl er
  | .stuck, h => h
theorem PostA.step {Q : List V → Hp → Prop} (a : Stp L W H W1 H1) : ∀ {r : Res (List D)}, PostA K Wx σ L W H Q r → PostA K Wx σ L W1 H1 Q r
  | .ok _ _, h => fun v W' H' st rl => h v W' H' (a.trans st) rl
  | .er _ _, h => fun c dd W' H' st rl er => h c dd W' H' (a.trans st) rl er
  | .stuck, h => h
theorem PostS.step {J : List Nat} {σ1 : L2.St} {E : Ends} (g : Ag J σ σ1) (a : Stp L W H W1 H1) : ∀ {r : Out}, PostS K Wx J σ L W H E r → PostS K Wx J σ1 L W1 H1 E r
  | .nx _, h => fun σ' W' H' ag st rl => h σ' W' H' (g.trans ag) (a.trans st) rl
  | .bk _, h => fun σ' W' H' ag st rl => h σ' W' H' (g.trans ag) (a.trans st) rl
  | .ct _, h => fun σ' W' H' ag st rl => h σ' W' H' (g.trans ag) (a.trans st) rl
  | .rt _ _, h => fun v σ' W' H' ag st rl => h v σ' W' H' (g.trans ag) (a.trans st) rl
  | .er _ _, h => fun c dd σ' W' H' ag st rl er => h c dd σ' W' H' (g.trans ag) (a.trans st) rl er
  | .stuck, h => h
theorem Rl.pop {ρ : Env} {v : V} {d : D} (r : Rl K L W (.val d :: ρ) (some v :: σ) H) : Rl K L W ρ σ H ∧ Rep K (hide H (W ++ L)) v d := by
  obtain ⟨rel, nd, dj, lk⟩ := r
  cases rel with
  | cons q r =>
    cases q with
    | val q => exact ⟨⟨r, nd, dj, lk⟩, q⟩
theorem Post.val {r : Res D} {P : V → Hp → Prop} (h : match r with
      | .ok d ρ' => ∀ v W' H', Stp L W H W' H' → Rl K L W' ρ' σ H' → Rep K (hide H' (W' ++ L)) v d → P v H'
      | .er e ρ' => ∀ c dd W' H', Stp L W H W' H' → Rl K L W' ρ' σ H' → ErrRep K (hide H' (W' ++ L)) c dd e → Wx c dd σ H'
      | .stuck => False) : Post K Wx σ L W H P (r.map Slot.val) := by
  cases r with
  | stuck => exact h
  | er e ρ' => exact h
  | ok d ρ' =>
    intro v W' H' st rl
    exact h v W' H' st rl.pop.1 rl.pop.2
theorem Rl.push {ρ : Env} {v : V} {d : D} (r : Rl K L W ρ σ H) (q : Rep K (hide H (W ++ L)) v d) : Rl K L W (.val d :: ρ) (some v :: σ) H :=
  ⟨.cons (f := []) (.val q) r.rel, r.nd, r.dj, r.lk⟩
theorem Post.here {Q : VK} {ρ : Env} {d : D} {v : V} (h : Post K Wx σ L W H Q (.ok (.val d) ρ)) (r : Rl K L W ρ σ H) (e : Ex H H1) (q : Rep K (hide H1 (W ++ L)) v d) : Q v H1 :=
  h v W H1 (r.stp e) ((r.ex e).push q)
end
section
variable (X : Cx) (Wx : WX)
def PX (e : Expr) (m : M Slot) : Prop := PE X e (tE X.K Wx m)
def PD (e : Expr) (m : M D) : Prop := PE X e (tE X.K Wx (vl m))
def PB (e : Expr) (m : M Bool) : Prop := PT X e (tB' X.K Wx m)
def PBW (e : Expr) (m : M Bool) : Prop := PW X e (tB' X.K Wx m)
def PAs (es : List Expr) (m : M (List D)) : Prop := PA X es (tA X.K Wx m)
variable (J : List Nat)
def PSt (st : Stmt) (m : S) : Prop := PS X st (tS X.K Wx J m)
def PSL (st : List Stmt) (m : S) : Prop := PSs X st (tS X.K Wx J m)
end
theorem PE_imp {X : Cx} {e : Expr} {t t' : TE} (h : PE X e t) (i : ∀ σ H Q, t' σ H Q → t σ H Q) : PE X e t' := ⟨fun pins s σ H Q I q => h.run pins s σ H Q I (i σ H Q q)⟩
theorem PT_imp {X : Cx} {e : Expr} {t t' : TT} (h : PT X e t) (i : ∀ σ H Q, t' σ H Q → t σ H Q) : PT X e t' := ⟨fun pins s σ H Q I q => h.run pins s σ H Q I (i σ H Q q)⟩
theorem PW_imp {X : Cx} {e : Expr} {t t' : TT} (h : PW X e t) (i : ∀ σ H Q, t' σ H Q → t σ H Q) : PW X e t' := ⟨fun w pins s σ H Q I q => h.run w pins s σ H Q I (i σ H Q q)⟩
theorem PA_imp {X : Cx} {e : List Expr} {t t' : L2.TA} (h : PA X e t) (i : ∀ σ H Q, t' σ H Q → t σ H Q) : PA X e t' := ⟨fun p pins s σ H Q I q => h.run p pins s σ H Q I (i σ H Q q)⟩
theorem PS_imp {X : Cx} {e : Stmt} {t t' : TS} (h : PS X e t) (i : ∀ E σ H, t' E σ H → t E σ H) : PS X e t' := ⟨fun pins s σ H E I q => h.run pins s σ H E I (i E σ H q)⟩
theorem PSs_imp {X : Cx} {e : List Stmt} {t t' : TS} (h : PSs X e t) (i : ∀ E σ H, t' E σ H → t E σ H) : PSs X e t' := ⟨fun pins s σ H E I q => h.run pins s σ H E I (i E σ H q)⟩
abbrev ErP (K : PySem.W.Frag) (Wx : WX) (σ : L2.St) (L W : List Addr) (H : Hp) (e : Err) (ρ' : Env) : Prop :=
  ∀ c dd W' H', Stp L W H W' H' → Rl K L W' ρ' σ H' → ErrRep K (hide H' (W' ++ L)) c dd e → Wx c dd σ H'
@[simp] def Out.of : Res Out → Out
  | .ok o _ => o
  | .er e ρ => .er e ρ
  | .stuck => .stuck
section
variable {K : PySem.W.Frag} {Wx : WX} {L W : List Addr} {ρ : Env} {σ : L2.St} {H : Hp} {β : Type} {T : Res β → Prop}
theorem bd_D {ma : M D} {k : D → Env → Res β} {R : VK} (r : Rl K L W ρ σ H) (p : T ((ma ρ).bd k)) (hR : ∀ x d ρ1 W1 H1, Stp L W H W1 H1 → Rl K L W1 ρ1 σ H1 → Rep K (hide H1 (W1 ++ L)) x d → T (k d ρ1) → R x H1)
    (hs : T .stuck → False := by exact id) (he : ∀ e ρ', T (.er e ρ') → ErP K Wx σ L W H e ρ' := by exact fun _ _ h => h) : tE K Wx (vl ma) σ H R := by
  refine ⟨ρ, L, W, r, ?_⟩
  show Post K Wx σ L W H R ((ma ρ).map Slot.val)
  refine Post.val ?_
  revert p
  cases ma ρ with
  | stuck => exact hs
  | er e ρ' => exact he e ρ'
  | ok d ρ' => exact fun p v W' H' st rl q => hR v d ρ' W' H' st rl q p
theorem bd_S {ma : M Slot} {k : Slot → Env → Res β} {R : VK} (r : Rl K L W ρ σ H) (p : T ((ma ρ).bd k)) (hR : ∀ x s ρ1 W1 H1, Stp L W H W1 H1 → Rl K L W1 (s :: ρ1) (some x :: σ) H1 → T (k s ρ1) → R x H1)
    (hs : T .stuck → False := by exact id) (he : ∀ e ρ', T (.er e ρ') → ErP K Wx σ L W H e ρ' := by exact fun _ _ h => h) : tE K Wx ma σ H R := by
  refine ⟨ρ, L, W, r, ?_⟩
  revert p
  cases ma ρ with
  | stuck => exact hs
  | er e ρ' => exact he e ρ'
  | ok d ρ' => exact fun p v W' H' st rl => hR v d ρ' W' H' st rl p
theorem bd_B {ma : M Bool} {k : Bool → Env → Res β} {R : Bool → Hp → Prop} (r : Rl K L W ρ σ H) (p : T ((ma ρ).bd k)) (hR : ∀ b ρ1 W1 H1, Stp L W H W1 H1 → Rl K L W1 ρ1 σ H1 → T (k b ρ1) → R b H1)
    (hs : T .stuck → False := by exact id) (he : ∀ e ρ', T (.er e ρ') → ErP K Wx σ L W H e ρ' := by exact fun _ _ h => h) : tB' K Wx ma σ H R := by
  refine ⟨ρ, L, W, r, ?_⟩
  revert p
  cases ma ρ with
  | stuck => exact hs
  | er e ρ' => exact he e ρ'
  | ok d ρ' => exact fun p W' H' st rl => hR d ρ' W' H' st rl p
theorem bd_A {ma : M (List D)} {k : List D → Env → Res β} {R : List V → Hp → Prop} (r : Rl K L W ρ σ H) (p : T ((ma ρ).bd k)) (hR : ∀ x d ρ1 W1 H1, Stp L W H W1 H1 → Rl K L W1 ρ1 σ H1 → Reps K (hide H1 (W1 ++ L)) x d → T (k d ρ1) → R x H1)
    (hs : T .stuck → False := by exact id) (he : ∀ e ρ', T (.er e ρ') → ErP K Wx σ L W H e ρ' := by exact fun _ _ h => h) : tA K Wx ma σ H R := by
  refine ⟨ρ, L, W, r, ?_⟩
  revert p
  cases ma ρ with
  | stuck => exact hs
  | er e ρ' => exact he e ρ'
  | ok d ρ' => exact fun p v W' H' st rl q => hR v d ρ' W' H' st rl q p
end
theorem map_bd {α β γ : Type} (f : β → γ) (r : Res α) (k : α → Env → Res β) : (r.bd k).map f = r.bd fun a ρ => (k a ρ).map f := by cases r <;> rfl
end P
namespace P
open PySem PySem.Spec PyProof.Rows L2
@[simp] def var (i : Nat) : M D := fun ρ => match ρ[i]? with
  | some (.val d) => .ok d ρ
  | _ => .stuck
@[simp] def cst (d : D) : M D := fun ρ => .ok d ρ
section
variable {X : Cx} {Wx : WX}
theorem Rl.var {K : PySem.W.Frag} {L W : List Addr} {ρ : Env} {σ : L2.St} {H : Hp} {i : Nat} {d : D} (r : Rl K L W ρ σ H) (e : ρ[i]? = some (.val d)) : ∃ v, σ[i]? = some (some v) ∧ Rep K (hide H (W ++ L)) v d := by
  obtain ⟨v, A, f, B, h1, h2, h3⟩ := r.rel.get e (by simp)
  cases h3 with
  | val h3 => exact ⟨v, h1, h3⟩
theorem px_var (i : Nat) {x : Str} {pos : Pos} (hN : X.N[i]? = some x := by rfl) (hv : Vis X.env.scope x := by first | exact Or.inl rfl | exact Or.inr (Or.inl rfl) | exact Or.inr (Or.inr rfl)) (hd : (x == ("__debug__" : Str)) = false := by decide)
    (hcd : (x == ("__classdict__" : Str)) = false := by decide) : PD X Wx (.Name x pos) (var i) := by
  refine PE_imp (pe_var (i := i) hN hv hd hcd) fun σ H Q h => ?_
  obtain ⟨ρ, L, W, r, p⟩ := h
  revert p
  show Post X.K Wx σ L W H Q ((var i ρ).map Slot.val) → _
  unfold var
  split
  · rename_i d e
    intro p
    obtain ⟨v, h1, h2⟩ := r.var e
    exact ⟨v, h1, p.here r (Ex.refl _) h2⟩
  · exact fun p => p.elim
theorem px_c {e : Expr} {v : V} {d : D} (h : PE X e (tC v)) (q : ∀ G, Rep X.K G v d) : PD X Wx e (cst d) := by
  refine PE_imp h fun σ H Q hq => ?_
  obtain ⟨ρ, L, W, r, p⟩ := hq
  have p : Post X.K Wx σ L W H Q (.ok (.val d) ρ) := p
  exact p.here r (Ex.refl _) (q _)
theorem px_int {i : Int} {j : Nat} {pos : Pos} : PD X Wx (.Constant (.int i) j pos) (cst (.int i)) := px_c pe_int fun _ => .int i
theorem px_bl {b : Bool} {j : Nat} {pos : Pos} : PD X Wx (.Constant (.bool b) j pos) (cst (.bl b)) := px_c pe_bl fun _ => .bl b
theorem px_non {j : Nat} {pos : Pos} : PD X Wx (.Constant .none j pos) (cst .non) := px_c pe_non fun _ => .non
theorem px_str {x : Str} {j : Nat} {pos : Pos} : PD X Wx (.Constant (.str x) j pos) (cst (.str x)) := px_c pe_str fun _ => .str x
theorem px_gint {i : Int} {x : Str} {pos : Pos} {t : Tok} (hm : X.mg x = some (.int i t)) (hg : Gl X x := by rfl) (hd : (x == ("__debug__" : Str)) = false := by decide) : PD X Wx (.Name x pos) (cst (.int i)) :=
  px_c (pe_glob (v := .int i) hg hm ⟨t, rfl⟩ hd) fun _ => .int i
theorem px_gstr {i : Str} {x : Str} {pos : Pos} {t : Tok} (hm : X.mg x = some (.str i t)) (hg : Gl X x := by rfl) (hd : (x == ("__debug__" : Str)) = false := by decide) : PD X Wx (.Name x pos) (cst (.str i)) :=
  px_c (pe_glob (v := .str i) hg hm ⟨t, rfl⟩ hd) fun _ => .str i
end
def OpOk (K : PySem.W.Frag) (r : R2) (g : D → D → Option D) : Prop := ∀ (S : List Addr) (H : Hp) (x y : V) (dx dy d : D) (Q : VK), (∀ a ∈ S, Al (H a)) → Rep K (hide H S) x dx → Rep K (hide H S) y dy → g dx dy = some d →
  (∀ v H', Ex H H' → Rep K (hide H' S) v d → Q v H') → r x y H Q
def OpD (X : Cx) (f : Value → Value → Sem Value) (g : D → D → Option D) : Prop := ∃ r : R2, OpR X f r ∧ OpOk X.K r g
def UnD (X : Cx) (f : Value → Sem Value) (g : D → Option D) : Prop := ∃ r : V → Hp → VK → Prop, UnR X f r ∧ ∀ (S : List Addr) (H : Hp) (x : V) (dx d : D) (Q : VK), (∀ a ∈ S, Al (H a)) → Rep X.K (hide H S) x dx → g dx = some d →
  (∀ v H', Ex H H' → Rep X.K (hide H' S) v d → Q v H') → r x H Q
@[simp] def bop (g : D → D → Option D) (ma mb : M D) : M D := fun ρ => (ma ρ).bd fun x ρ1 => (mb ρ1).bd fun y ρ2 => ofO (g x y) ρ2
@[simp] def uop (g : D → Option D) (ma : M D) : M D := fun ρ => (ma ρ).bd fun x ρ1 => ofO (g x) ρ1
theorem OpOk.or {K : PySem.W.Frag} {r r' : R2} {g g' : D → D → Option D} (h : OpOk K r g) (h' : OpOk K r' g') : OpOk K (fun x y H Q => r x y H Q ∨ r' x y H Q) (fun x y => (g x y).or (g' x y)) := fun S H x y dx dy d Q al rx ry e k => by
  have e : (g dx dy).or (g' dx dy) = some d := e
  cases q : g dx dy with
  | none => rw [q] at e; exact .inr (h' S H x y dx dy d Q al rx ry e k)
  | some d' => rw [q] at e; cases e; exact .inl (h S H x y dx dy _ Q al rx ry q k)
theorem OpD.or {X : Cx} {f : Value → Value → Sem Value} {g g' : D → D → Option D} : OpD X f g → OpD X f g' → OpD X f (fun x y => (g x y).or (g' x y))
  | ⟨r, h1, h2⟩, ⟨r', h3, h4⟩ => ⟨_, h1.or h3, h2.or h4⟩
theorem OpD.of {X : Cx} {f : Value → Value → Sem Value} {g g' : D → D → Option D} (h : OpD X f g) (e : ∀ x y, g' x y = g x y) : OpD X f g' := by
  have : g' = g := by funext x y; exact e x y
  rw [this]; exact h
section
variable {X : Cx} {Wx : WX} {K : PySem.W.Frag} {L W : List Addr} {ρ : Env} {σ : L2.St} {H : Hp} {Q : VK}
theorem Post.ofO {o : Option D} (p : Post K Wx σ L W H Q ((ofO o ρ).map Slot.val)) : ∃ d, o = some d ∧ Post K Wx σ L W H Q (.ok (.val d) ρ) := by
  cases o with
  | none => exact p.elim
  | some d => exact ⟨d, rfl, p⟩
theorem two {ma mb : M D} {r : R2} {g : D → D → Option D} (hg : OpOk K r g) {H : Hp} {Q : VK} (h : tE K Wx (vl (bop g ma mb)) σ H Q) : tOp r (tE K Wx (vl ma)) (tE K Wx (vl mb)) σ H Q := by
  obtain ⟨ρ, L, W, rl, p⟩ := h
  simp only [vl, bop, map_bd] at p
  refine bd_D (T := Post K Wx σ L W H Q) rl p fun x dx ρ1 W1 H1 st1 rl1 q1 p => ?_
  refine bd_D (T := Post K Wx σ L W H Q) (k := fun y ρ2 => (P.ofO (g dx y) ρ2).map Slot.val) rl1 p (fun y dy ρ2 W2 H2 st2 rl2 q2 p => ?_) id (fun e ρ' h => (Post.step (r := .er e ρ') st1 h))
  obtain ⟨d, e, p⟩ := Post.ofO p
  exact hg (W2 ++ L) H2 x y dx dy d Q rl2.alloc (st2.rep q1) q2 e fun v H' ex q => (p.step (st1.trans st2)).here rl2 ex q
theorem px_bin {a b : Expr} {op : Operator} {pos : Pos} {ma mb : M D} {g : D → D → Option D} (ho : OpD X (binaryOp op) g) (ha : PD X Wx a ma) (hb : PD X Wx b mb) : PD X Wx (.BinOp a op b pos) (bop g ma mb) := by
  obtain ⟨r, h1, h2⟩ := ho
  exact PE_imp (pe_op h1 ha hb) fun σ H Q h => two h2 h
theorem px_cmp {a b : Expr} {op : CmpOp} {pos : Pos} {ma mb : M D} {g : D → D → Option D} (ho : OpD X (compareOp op) g) (ha : PD X Wx a ma) (hb : PD X Wx b mb) (hm : behindInMarks op b = false := by first | exact nobehind _ (by decide) (by decide) | rfl) : PD X Wx (.Compare a [op] [b] pos) (bop g ma mb) := by
  obtain ⟨r, h1, h2⟩ := ho
  exact PE_imp (pe_cmpR h1 ha hb hm) fun σ H Q h => two h2 h
theorem px_un {a : Expr} {op : UnaryOp} {pos : Pos} {ma : M D} {g : D → Option D} (ho : UnD X (unaryOp op) g) (ha : PD X Wx a ma) : PD X Wx (.UnaryOp op a pos) (uop g ma) := by
  obtain ⟨r, h1, h2⟩ := ho
  refine PE_imp (pe_un h1 ha) fun σ H Q h => ?_
  obtain ⟨ρ, L, W, rl, p⟩ := h
  simp only [vl, uop, map_bd] at p
  refine bd_D (T := Post X.K Wx σ L W H Q) rl p fun x dx ρ1 W1 H1 st1 rl1 q1 p => ?_
  obtain ⟨d, e, p⟩ := Post.ofO p
  exact h2 (W1 ++ L) H1 x dx d Q rl1.alloc q1 e fun v H' ex q => (p.step st1).here rl1 ex q
end
@[simp] def asB : D → Option Bool
  | .bl b => some b
  | _ => none
@[simp] def tst (ma : M D) : M Bool := fun ρ => (ma ρ).bd fun d ρ1 => ofO (asB d) ρ1
@[simp] def cond {α : Type} (mt : M Bool) (ma mb : M α) : M α := fun ρ => (mt ρ).bd fun b ρ1 => if b then ma ρ1 else mb ρ1
@[simp] def andB (ma mb : M Bool) : M Bool := fun ρ => (ma ρ).bd fun b ρ1 => if b then mb ρ1 else .ok false ρ1
@[simp] def orB (ma mb : M Bool) : M Bool := fun ρ => (ma ρ).bd fun b ρ1 => if b then .ok true ρ1 else mb ρ1
@[simp] def notB (ma : M Bool) : M Bool := fun ρ => (ma ρ).bd fun b ρ1 => .ok (!b) ρ1
@[simp] def andV (ma mb : M D) : M D := fun ρ => (ma ρ).bd fun d ρ1 => match d with
  | .bl b => if b then mb ρ1 else .ok (.bl false) ρ1
  | _ => .stuck
@[simp] def orV (ma mb : M D) : M D := fun ρ => (ma ρ).bd fun d ρ1 => match d with
  | .bl b => if b then .ok (.bl true) ρ1 else mb ρ1
  | _ => .stuck
@[simp] def notV (ma : M D) : M D := fun ρ => (ma ρ).bd fun d ρ1 => match d with
  | .bl b => .ok (.bl (!b)) ρ1
  | _ => .stuck
@[simp] def chain (g g' : D → D → Option D) (ma mb mc : M D) : M D := fun ρ => (ma ρ).bd fun x ρ1 => (mb ρ1).bd fun y ρ2 => match g x y with
  | some (.bl k) => if k then (mc ρ2).bd fun z ρ3 => ofO (g' y z) ρ3 else .ok (.bl false) ρ2
  | _ => .stuck
section
variable {X : Cx} {Wx : WX} {K : PySem.W.Frag} {L W : List Addr} {ρ : Env} {σ : L2.St} {H : Hp} {Q : VK}
theorem Rep.bl_inv {G : Hp} {v : V} {b : Bool} (h : Rep K G v (.bl b)) : v = .bl b := by cases h; rfl
theorem tst_tE {ma : M D} {H : Hp} {Q : Bool → Hp → Prop} (h : tB' K Wx (tst ma) σ H Q) : tE K Wx (vl ma) σ H fun x H' => ∃ k, x = .bl k ∧ Q k H' := by
  obtain ⟨ρ, L, W, rl, p⟩ := h
  refine bd_D (T := PostT K Wx σ L W H Q) rl p fun x dx ρ1 W1 H1 st1 rl1 q1 p => ?_
  cases dx with
  | bl b => exact ⟨b, q1.bl_inv, p W1 H1 st1 rl1⟩
  | _ => exact p.elim
theorem px_tst {e : Expr} {ma : M D} (h : PD X Wx e ma) (he : ∀ whole, isTrue e X.env whole = (do let v ← whole; standAt e.pos; holding [v] (truthy v)) := by intro _; rfl) : PB X Wx e (tst ma) :=
  PT_imp (pt_val h he) fun σ H Q hq => tst_tE hq
theorem px_tcmp {a b : Expr} {op : CmpOp} {pos : Pos} {ma mb : M D} {g : D → D → Option D} (ho : OpD X (compareOp op) g) (ha : PD X Wx a ma) (hb : PD X Wx b mb) (hm : behindInMarks op b = false := by first | exact nobehind _ (by decide) (by decide) | rfl) : PB X Wx (.Compare a [op] [b] pos) (tst (bop g ma mb)) := by
  obtain ⟨r, h1, h2⟩ := ho
  exact PT_imp (pt_cmpR h1 ha hb hm) fun σ H Q h => two h2 (tst_tE h)
theorem px_w {e : Expr} {m : M Bool} (h : PBW X Wx e m) : PB X Wx e m := PW.pt h
theorem px_and1 {a : Expr} {pos : Pos} {ma : M Bool} (ha : PB X Wx a ma) : PBW X Wx (.BoolOp .And [a] pos) ma := pw_and1 ha
theorem px_or1 {a : Expr} {pos : Pos} {ma : M Bool} (ha : PB X Wx a ma) : PBW X Wx (.BoolOp .Or [a] pos) ma := pw_or1 ha
theorem px_and {a b : Expr} {rest : List Expr} {pos : Pos} {ma mb : M Bool} (ha : PB X Wx a ma) (hb : PBW X Wx (.BoolOp .And (b :: rest) pos) mb) : PBW X Wx (.BoolOp .And (a :: b :: rest) pos) (andB ma mb) := by
  refine PW_imp (pw_and ha hb) fun σ H Q h => ?_
  obtain ⟨ρ, L, W, rl, p⟩ := h
  refine bd_B (T := PostT X.K Wx σ L W H Q) rl p fun c ρ1 W1 H1 st1 rl1 p => ?_
  cases c with
  | true => exact iteT ⟨ρ1, L, W1, rl1, PostT.step st1 p⟩
  | false => exact iteF (p W1 H1 st1 rl1)
theorem px_or {a b : Expr} {rest : List Expr} {pos : Pos} {ma mb : M Bool} (ha : PB X Wx a ma) (hb : PBW X Wx (.BoolOp .Or (b :: rest) pos) mb) : PBW X Wx (.BoolOp .Or (a :: b :: rest) pos) (orB ma mb) := by
  refine PW_imp (pw_or ha hb) fun σ H Q h => ?_
  obtain ⟨ρ, L, W, rl, p⟩ := h
  refine bd_B (T := PostT X.K Wx σ L W H Q) rl p fun c ρ1 W1 H1 st1 rl1 p => ?_
  cases c with
  | false => exact iteF ⟨ρ1, L, W1, rl1, PostT.step st1 p⟩
  | true => exact iteT (p W1 H1 st1 rl1)
theorem px_tnot {a : Expr} {pos : Pos} {ma : M Bool} (ha : PB X Wx a ma) : PB X Wx (.UnaryOp .Not a pos) (notB ma) := by
  refine PT_imp (pt_not ha) fun σ H Q h => ?_
  obtain ⟨ρ, L, W, rl, p⟩ := h
  exact bd_B (T := PostT X.K Wx σ L W H Q) rl p fun c ρ1 W1 H1 st1 rl1 p => p W1 H1 st1 rl1
theorem px_if {c a b : Expr} {pos : Pos} {mt : M Bool} {ma mb : M D} (hc : PB X Wx c mt) (ha : PD X Wx a ma) (hb : PD X Wx b mb) : PD X Wx (.IfExp c a b pos) (cond mt ma mb) := by
  refine PE_imp (pe_ifExp hc ha hb) fun σ H Q h => ?_
  obtain ⟨ρ, L, W, rl, p⟩ := h
  simp only [vl, cond, map_bd] at p
  refine bd_B (T := Post X.K Wx σ L W H Q) rl p fun c ρ1 W1 H1 st1 rl1 p => ?_
  cases c with
  | false => exact iteF ⟨ρ1, L, W1, rl1, Post.step st1 p⟩
  | true => exact iteT ⟨ρ1, L, W1, rl1, Post.step st1 p⟩
theorem px_one {op : BoolOp} {a : Expr} {pos : Pos} {ma : M D} (ha : PD X Wx a ma) : PD X Wx (.BoolOp op [a] pos) ma := pe_one ha
theorem px_andV {a b : Expr} {rest : List Expr} {pos : Pos} {ma mb : M D} (ha : PD X Wx a ma) (hb : PD X Wx (.BoolOp .And (b :: rest) pos) mb) : PD X Wx (.BoolOp .And (a :: b :: rest) pos) (andV ma mb) := by
  refine PE_imp (pe_and ha hb) fun σ H Q h => ?_
  obtain ⟨ρ, L, W, rl, p⟩ := h
  simp only [vl, andV, map_bd] at p
  refine bd_D (T := Post X.K Wx σ L W H Q) rl p fun x d ρ1 W1 H1 st1 rl1 q1 p => ?_
  cases d with
  | bl c =>
    refine ⟨c, q1.bl_inv, ?_⟩
    cases c with
    | true => exact iteT ⟨ρ1, L, W1, rl1, Post.step st1 p⟩
    | false => exact iteF (Post.here (Post.step st1 p) rl1 (Ex.refl _) (.bl false))
  | _ => exact p.elim
theorem px_orV {a b : Expr} {rest : List Expr} {pos : Pos} {ma mb : M D} (ha : PD X Wx a ma) (hb : PD X Wx (.BoolOp .Or (b :: rest) pos) mb) : PD X Wx (.BoolOp .Or (a :: b :: rest) pos) (orV ma mb) := by
  refine PE_imp (pe_or ha hb) fun σ H Q h => ?_
  obtain ⟨ρ, L, W, rl, p⟩ := h
  simp only [vl, orV, map_bd] at p
  refine bd_D (T := Post X.K Wx σ L W H Q) rl p fun x d ρ1 W1 H1 st1 rl1 q1 p => ?_
  cases d with
  | bl c =>
    refine ⟨c, q1.bl_inv, ?_⟩
    cases c with
    | false => exact iteF ⟨ρ1, L, W1, rl1, Post.step st1 p⟩
    | true => exact iteT (Post.here (Post.step st1 p) rl1 (Ex.refl _) (.bl true))
  | _ => exact p.elim
theorem chain_tE {a b c : Expr} {ma mb mc : M D} {r r' : R2} {g g' : D → D → Option D} (hg : OpOk K r g) (hg' : OpOk K r' g') {H : Hp} {Q : VK} (h : tE K Wx (vl (chain g g' ma mb mc)) σ H Q) : tChain r r' (tE K Wx (vl ma)) (tE K Wx (vl mb)) (tE K Wx (vl mc)) σ H Q := by
  obtain ⟨ρ, L, W, rl, p⟩ := h
  simp only [vl, chain, map_bd] at p
  refine bd_D (T := Post K Wx σ L W H Q) rl p fun x dx ρ1 W1 H1 st1 rl1 q1 p => ?_
  refine bd_D (T := Post K Wx σ L W1 H1 Q) rl1 (Post.step st1 p) fun y dy ρ2 W2 H2 st2 rl2 q2 p => ?_
  cases e : g dx dy with
  | none => rw [e] at p; exact p.elim
  | some d =>
    rw [e] at p
    cases d with
    | bl k =>
      refine hg (W2 ++ L) H2 x y dx dy (.bl k) _ rl2.alloc (st2.rep q1) q2 e fun v H3 ex q => ⟨k, q.bl_inv, ?_⟩
      cases k with
      | true =>
        have p : Post K Wx σ L W1 H1 Q (((mc ρ2).bd fun z ρ3 => P.ofO (g' dy z) ρ3).map Slot.val) := p
        rw [map_bd] at p
        refine iteT (bd_D (T := Post K Wx σ L W2 H3 Q) (rl2.ex ex) ((p.step st2).step (rl2.stp ex)) fun z dz ρ3 W4 H4 st4 rl4 q4 p => ?_)
        obtain ⟨d', e', p⟩ := Post.ofO p
        exact hg' (W4 ++ L) H4 y z dy dz d' Q rl4.alloc (st4.rep ((rl2.stp ex).rep q2)) q4 e' fun v H' ex q => (p.step st4).here rl4 ex q
      | false => exact iteF (Post.here (Post.step st2 p) rl2 ex (.bl false))
    | _ => exact p.elim
theorem px_chain {a b c : Expr} {op op' : CmpOp} {pos : Pos} {ma mb mc : M D} {g g' : D → D → Option D} (ho : OpD X (compareOp op) g) (ho' : OpD X (compareOp op') g') (ha : PD X Wx a ma) (hb : PD X Wx b mb) (hc : PD X Wx c mc)
    (hm : lastMarks [op, op'] [b, c] = false := by with_unfolding_all rfl) : PD X Wx (.Compare a [op, op'] [b, c] pos) (chain g g' ma mb mc) := by
  obtain ⟨r, h1, h2⟩ := ho
  obtain ⟨r', h1', h2'⟩ := ho'
  exact PE_imp (pe_chain h1 h1' ha hb hc hm) fun σ H Q h => chain_tE (a := a) (b := b) (c := c) h2 h2' h
theorem px_tchain {a b c : Expr} {op op' : CmpOp} {pos : Pos} {ma mb mc : M D} {g g' : D → D → Option D} (ho : OpD X (compareOp op) g) (ho' : OpD X (compareOp op') g') (ha : PD X Wx a ma) (hb : PD X Wx b mb) (hc : PD X Wx c mc)
    (hm : lastMarks [op, op'] [b, c] = false := by with_unfolding_all rfl) : PB X Wx (.Compare a [op, op'] [b, c] pos) (tst (chain g g' ma mb mc)) := by
  obtain ⟨r, h1, h2⟩ := ho
  obtain ⟨r', h1', h2'⟩ := ho'
  exact PT_imp (pt_chain h1 h1' ha hb hc hm) fun σ H Q h => chain_tE (a := a) (b := b) (c := c) h2 h2' (tst_tE h)
end
end P
namespace P
open PySem PySem.Spec PyProof.Rows L2
structure Rm (k : Nat) (A : Around) : Prop where
  room : Room k A
  grd : A.guards = some []
theorem Rm.le {j k : Nat} {A : Around} (r : Rm k A) (h : j ≤ k) : Rm j A := ⟨r.room.mono h, r.grd⟩
theorem Rm.in_ {k : Nat} {A : Around} (r : Rm (k + 1) A) (env : PySem.Env) : Rm k (A.deeper env) := ⟨r.room.deeper env, r.grd⟩
structure FnG (P : Program) (w : World) (K : PySem.W.Frag) (mg : Str → Option Value) (base : Heap) (k : Nat) (f : Addr) (fd : FuncData) (ps : List Str) (sp : Sp) : Prop where
  len : ∀ vs H Q E, sp vs H Q E → vs.length = ps.length
  run : ∀ (A : Around) (outer : List PySem.Env) (s : Shared) (H : Hp) (args : Args) (us : List Value) (vs : List V) (Q : VK) (E : XK), Rm k A → Env0 P w K mg base A outer s H → BindsTo s fd args (ps.zip us) → Vals vs us → sp vs H Q E →
    codeAny (model P w) A (.call (.ref f) args) (CR (L2N.CX P w) outer P w H s Q E) s
theorem FnG.le {P : Program} {w : World} {K : PySem.W.Frag} {mg : Str → Option Value} {base : Heap} {j k : Nat} {f : Addr} {fd : FuncData} {ps : List Str} {sp : Sp} (F : FnG P w K mg base j f fd ps sp) (h : j ≤ k) : FnG P w K mg base k f fd ps sp :=
  ⟨F.len, fun A outer s H args us vs Q E hr => F.run A outer s H args us vs Q E (hr.le h)⟩
section
variable {P : Program} {w : World} {K : PySem.W.Frag} {mg : Str → Option Value} {base : Heap} {x qual : Str} {params : Arguments} {body : List Stmt} {scope : Scope} {dvs : List V} {kws : List (Str × V)} {f : Addr} {fd : FuncData} {N ps : List Str} {k : Nat} {sp : Sp}
theorem FnG.of_body (F : FunD K x qual params body scope dvs kws f fd) (Sc : FnScope N ps scope) (len : ∀ vs H Q E, sp vs H Q E → vs.length = ps.length)
    (hbody : ∀ (cdv : Value) (A : Around) (outer : List PySem.Env) (s : Shared) (H : Hp) (vs : List V) (Q : VK) (E : XK), Rm k (A.deeper (envOfC qual scope s.heap.objs.size f cdv)) → sp vs H Q E →
      ∃ t, PSs (cxOf (L2N.CX P w) P w K mg base N qual scope f cdv A outer s H E) body t ∧ t { nx := fun _ H' => Q .non H', rt := Q } (L2.start N vs) H) : FnG P w K mg base (k + 1) f fd ps sp := by
  obtain ⟨oc, od, dV, kV, doc, pm, an, cdv, ct, osl, rfl, lk, hcd, _, _⟩ := F.ex
  constructor
  · exact len
  intro A outer s H args us vs Q E hr e0 hb rv hsp
  have stays : ∀ b o, base.get? b = some o → s.heap.get? b = some o := fun b o e => (e0.bs b o e).1
  have KX : K.In s.heap := e0.mod.kin.keeps stays
  have vis : ∀ y ∈ ps.zip us, scope.names.lookup y.1 = some .local ∨ (scope.names.lookup y.1 = some .cell ∧ ((cellsFrom (s.heap.objs.size + 1) scope.names []).lookup y.1).isSome = true) := by
    rintro ⟨n, v⟩ hy
    exact (Sc.par n (List.of_mem_zip hy).1).imp id fun q => ⟨q, PySem.W.cellsFrom_some _ _ _ (.inl q)⟩
  refine codeAny_call_function hr.room.depth (KX _ _ lk) rfl Sc.co Sc.gen rfl (PySem.W.codeRec_of KX hcd) (hb _ _ _ _ ?_)
  exact wpAny_newFunctionEnv_cells Sc.kind vis fun env he s1 x => by
    subst he
    refine ⟨(e0.mod.nolimit.keeps stays).keeps x.toInCall.keep, codeAny_func ?_⟩
    obtain ⟨t, ht, hq⟩ := hbody cdv A outer s H vs Q E (hr.in_ _) hsp
    have I : Inv (cxOf (L2N.CX P w) P w K mg base N qual scope f cdv A outer s H E) [] (L2.start N vs) H s1 := inv_start Sc hr.room.hd e0 (len _ _ _ _ hsp) rv x
    refine wpAny_mono (ht.run [] s1 _ H _ I hq) (fun fl s' hs => ?_) fun e s' hs => hs
    match fl, hs with
    | .ret u, ⟨v, σ', H', J, r', q⟩ => exact ⟨v, H', J.os, J.bare, J.base, J.hok, r', q⟩
    | .next, ⟨σ', H', J, q⟩ => exact ⟨.non, H', J.os, J.bare, J.base, J.hok, rfl, q⟩
    | .brk, ⟨_, _, _, q⟩ => exact q.elim
    | .cont, ⟨_, _, _, q⟩ => exact q.elim
end
theorem lawG {P : Program} {w : World} {K : PySem.W.Frag} {mg mb : Str → Option Value} {k : Nat} {fa a : Addr} {fd : FuncData} {x : Str} {sp : Sp} {s₁ : Shared} {vs : List Value} {ns : List Int}
    (KX : K.In s₁.heap) (hns : s₁.heap.Ns mainGlobals mg) (hb : s₁.heap.Ns builtinsNs mb) (hbb : ∀ x : Str, x ≠ "__name__" → mb x = bootBuiltins x) (hlim : s₁.heap.NoLimit) (hg : s₁.gens = #[])
    (ha : s₁.heap.get? a = some { cls := .type "list", data := .seq vs.toArray }) (hi : IntsAre vs ns) (hl : ns.length ≤ sizeLine) (hr : Rm k callerA)
    (F : ∀ base : Heap, K.In base → base.Ns mainGlobals mg → FnG P w K mg base k fa fd [x] sp) (hbind : ∀ (s : Shared) (u : Value), BindsTo s fd ⟨[u], []⟩ [(x, u)])
    (hsp : ∀ H : Hp, SqL K H a (ns.map V.int) → sp [.ref a] H (fun v _ => v = .bl true) fun _ _ _ => False) :
    codeAny (model P w) callerA (.call (.ref fa) ⟨[.ref a], []⟩) (fun r s' => r = .ok (.ret (.bool true)) ∧ OldK s₁.heap s'.heap ∧ s'.os = s₁.os ∧ AllBare s'.gens) s₁ := by
  have rv := vals_ints hi
  have lenV := hi.length
  -- what is tracked: at most the script, as it is
  suffices core : ∀ H : Hp, Only H → SqL K H a (ns.map V.int) → HOk P w H s₁.heap → (∀ b, H b ≠ none → b = a ∧ K.lookup a = none) →
      codeAny (model P w) callerA (.call (.ref fa) ⟨[.ref a], []⟩) (fun r s' => r = .ok (.ret (.bool true)) ∧ OldK s₁.heap s'.heap ∧ s'.os = s₁.os ∧ AllBare s'.gens) s₁ by
    cases hk : K.lookup a with
    | some o =>
      have e := KX a o hk
      rw [ha] at e
      cases e
      exact core (fun _ => none) (fun _ => .inl rfl) (.inr ⟨_, vs.toArray, _, hk, rfl, rfl, rfl, by rw [List.size_toArray, lenV]; exact hl, by simpa using rv⟩) (fun b u (z : (none : Option HO) = some u) => by cases z) fun b z => absurd rfl z
    | none =>
      have at_ : ∀ b, (if b = a then some (HO.frz { cls := .type "list", data := .seq vs.toArray } (.lst (ns.map V.int))) else none) ≠ none → b = a := fun b z => by
        by_cases hb : b = a
        · exact hb
        · exact absurd (if_neg hb) z
      refine core (fun b => if b = a then some (.frz { cls := .type "list", data := .seq vs.toArray } (.lst (ns.map V.int))) else none) (fun b => ?_) (.inl (.inr ⟨_, if_pos rfl⟩)) (fun b u z => ?_) fun b z => ⟨at_ b z, hk⟩
      · by_cases hb : b = a
        · exact .inr ⟨_, _, if_pos hb⟩
        · exact .inl (if_neg hb)
      · have hb : b = a := at_ b (fun z' => by cases z.symm.trans z')
        subst hb
        cases (if_pos rfl).symm.trans z
        exact ⟨ha, by rw [List.length_map]; exact hl, vs, _, rv, ha⟩
  intro H hO hS hok hA
  have base_of : ∀ {b : Addr} {o : Obj}, s₁.heap.get? b = some o → H b = none → (hidT s₁.heap H).get? b = some o := fun e n => hidT_get e n
  have free : ∀ {b : Addr} {o : Obj}, s₁.heap.get? b = some o → (b = a → False) → H b = none := fun {b o} _ h => by
    cases q : H b with
    | none => rfl
    | some u => exact (h (hA b (by rw [q]; simp)).1).elim
  have nsK : ∀ {b : Addr} {m : Str → Option Value}, s₁.heap.Ns b m → (hidT s₁.heap H).Ns b m := fun {b m} ⟨o, es, ep, e, d, r⟩ => ⟨o, es, ep, base_of e (free e fun z => by
    subst z
    rw [ha] at e
    cases e
    cases d), d, r⟩
  have hKb : K.In (hidT s₁.heap H) := fun b o e => base_of (KX b o e) (by
    cases q : H b with
    | none => rfl
    | some u =>
      have z := hA b (by rw [q]; simp)
      rw [z.1, z.2] at e
      cases e)
  obtain ⟨mc, l1, l2⟩ := hlim
  have e0 : Env0 P w K mg (hidT s₁.heap H) callerA [] s₁ H := ⟨rfl, ⟨hKb, nsK hns, ⟨mb, nsK hb, hbb⟩, ⟨mc, nsK l1, l2⟩⟩, fun b o e => of_hidT e, Nat.le_of_eq (hidT_size _ _), trivial, fun b hb => absurd (show b ∈ ([] : List Addr) from hb) List.not_mem_nil, hok, .of_eq hg⟩
  refine codeAny_mono ((F _ hKb (nsK hns)).run callerA [] s₁ H ⟨[.ref a], []⟩ [.ref a] [.ref a] _ _ hr e0 (hbind s₁ (.ref a)) (.cons rfl .nil) (hsp H hS)) fun r s' h => ?_
  match r, h with
  | .error e, h =>
    obtain ⟨_, _, _, _, _, _, _, _, _, _, _, _, z⟩ := (show L2N.CX P w [] H s₁ (fun _ _ _ => False) e s' from h)
    exact z.elim
  | .ok .next, h => exact False.elim h
  | .ok .brk, h => exact False.elim h
  | .ok .cont, h => exact False.elim h
  | .ok (.ret u), ⟨v, H', os, bare, un, hok', r', q⟩ =>
    have q' : v = .bl true := q
    subst q'
    obtain rfl : u = Value.bool true := r'
    refine ⟨rfl, OldK.of_keep fun b o e => ?_, os, bare⟩
    cases q : H b with
    | none => exact un.keep b o e q (fun z => absurd (show b ∈ ([] : List Addr) from z) List.not_mem_nil) List.not_mem_nil
    | some u =>
      rcases hO b with z | z
      · rw [q] at z; cases z
      · obtain ⟨obj, xs, z⟩ := z
        have e1 := (hok b _ z).1
        rw [e] at e1
        have e2 : o = obj := Option.some.inj e1
        rw [e2]
        exact (hok' b _ (un.frzs b obj _ z)).1
theorem walkG {l : PySem.W.OpenLaw} {n k : Nat} {q : Program} {loose : List Str} {XP : (Str → Option Value) → Heap → Prop} {YP : World → Heap → Prop} {d : DefRec} {x : Str}
    (hn : l.most = some n) (hn2 : n ≤ sizeLine) (hdf : d.params.defaults = []) (hr : Rm k callerA)
    (F : ∀ (w : World) (mg : Str → Option Value) (fa : Addr) (h : Heap), YP w h → h.Ns mainGlobals mg → mg d.name = some (.ref fa) →
      ∃ (K : PySem.W.Frag) (fd : FuncData) (sp : Sp), K.In h ∧ (∀ (s : Shared) (u : Value), BindsTo s fd ⟨[u], []⟩ [(x, u)]) ∧
        (∀ (H : Hp) (a : Addr) (ns : List Int), ns.length ≤ n → SqL K H a (ns.map V.int) → sp [.ref a] H (fun v _ => v = .bl true) fun _ _ _ => False) ∧
        ∀ base : Heap, K.In base → base.Ns mainGlobals mg → FnG l.prog w K mg base k fa fd [x] sp) :
    PySem.W.WalkO q loose XP YP l.row.toRowW d [] (fun f vs => PySem.call f vs) := by
  refine Att.attach_call hn hdf fun w s₀ s₁ mg mb fa o pm cd doc a vs ns G Y ho hd hcd hmg hobj hints hlen hg => ?_
  obtain ⟨K, fd, sp, KX, hb, hsp, hF⟩ := F w mg fa _ Y G.T.g hmg
  exact lawG KX G.T.g G.T.b G.T.builtins G.T.nolimit hg hobj hints (Nat.le_trans hlen hn2) hr hF hb fun H hS => hsp H a ns hlen hS
end P
namespace P
open PySem PySem.Spec PyProof.Rows L2
theorem hide_congr {H : Hp} {S S' : List Addr} (h : ∀ a, a ∈ S ↔ a ∈ S') : hide H S = hide H S' := by
  funext a
  unfold hide
  by_cases m : a ∈ S
  · rw [if_pos m, if_pos ((h a).mp m)]
  · rw [if_neg m, if_neg fun z => m ((h a).mpr z)]
@[simp] def nilA : M (List D) := fun ρ => .ok [] ρ
@[simp] def consA (ma : M D) (mr : M (List D)) : M (List D) := fun ρ => (ma ρ).bd fun d ρ1 => (mr ρ1).bd fun ds ρ2 => .ok (d :: ds) ρ2
section
variable {X : Cx} {Wx : WX}
theorem pxa_nil : PAs X Wx [] nilA := PA_imp pa_nil fun σ H Q h => by
  obtain ⟨ρ, L, W, rl, p⟩ := h
  exact p [] W H .refl rl .nil
theorem pxa_cons {e : Expr} {es : List Expr} {ma : M D} {mr : M (List D)} (ha : PD X Wx e ma) (hr : PAs X Wx es mr) (hs : starEach (e :: es) X.env = (false, eval e X.env) :: starEach es X.env := by rfl) : PAs X Wx (e :: es) (consA ma mr) := by
  refine PA_imp (pa_cons ha hr hs) fun σ H Q h => ?_
  obtain ⟨ρ, L, W, rl, p⟩ := h
  refine bd_D (T := PostA X.K Wx σ L W H Q) rl p fun x dx ρ1 W1 H1 st1 rl1 q1 p => ?_
  refine bd_A (T := PostA X.K Wx σ L W1 H1 Q) rl1 (PostA.step st1 p) fun xs ds ρ2 W2 H2 st2 rl2 q2 p => ?_
  exact p _ W2 H2 st2 rl2 (.cons (st2.rep q1) q2)
def PKs (X : Cx) (Wx : WX) (kws : List Keyword) (m : M (List D)) : Prop := PK X kws (tA X.K Wx m)
theorem PK_imp {X : Cx} {e : List Keyword} {t t' : L2.TA} (h : PK X e t) (i : ∀ σ H Q, t' σ H Q → t σ H Q) : PK X e t' := ⟨fun p pins s σ H Q I q => h.run p pins s σ H Q I (i σ H Q q)⟩
theorem pxk_nil : PKs X Wx [] nilA := PK_imp pk_nil fun σ H Q h => by
  obtain ⟨ρ, L, W, rl, p⟩ := h
  exact p [] W H .refl rl .nil
theorem pxk_cons {nm : Option Str} {e : Expr} {kpos : Pos} {kws : List Keyword} {ma : M D} {mr : M (List D)} (ha : PD X Wx e ma) (hr : PKs X Wx kws mr) : PKs X Wx (⟨nm, e, kpos⟩ :: kws) (consA ma mr) := by
  refine PK_imp (pk_cons ha hr) fun σ H Q h => ?_
  obtain ⟨ρ, L, W, rl, p⟩ := h
  refine bd_D (T := PostA X.K Wx σ L W H Q) rl p fun x dx ρ1 W1 H1 st1 rl1 q1 p => ?_
  refine bd_A (T := PostA X.K Wx σ L W1 H1 Q) rl1 (PostA.step st1 p) fun xs ds ρ2 W2 H2 st2 rl2 q2 p => ?_
  exact p _ W2 H2 st2 rl2 (.cons (st2.rep q1) q2)
end
inductive FR where
  | ok (s : Slot)
  | er (e : Err)
  | stuck
@[simp] def FR.res (ρ : Env) : FR → Res Slot
  | .ok s => .ok s ρ
  | .er e => .er e ρ
  | .stuck => .stuck
def FRP (K : PySem.W.Frag) (L W : List Addr) (H : Hp) (Q : VK) (E : XK) : FR → Prop
  | .ok s => ∀ v W' H', Stp L W H W' H' → Rl K L W' [s] [some v] H' → Q v H'
  | .er e => ∀ c dd W' H', Stp L W H W' H' → (∀ a ∈ W', Al (H' a)) → ErrRep K (hide H' (W' ++ L)) c dd e → E c dd H'
  | .stuck => False
def spP (K : PySem.W.Frag) (f : List D → FR) : Sp := fun vs H Q E => ∃ L ds, (∀ a ∈ L, Al (H a)) ∧ Reps K (hide H L) vs ds ∧ FRP K L [] H Q E (f ds)
theorem Rl.join {K : PySem.W.Frag} {L W W' : List Addr} {ρ : Env} {σ : L2.St} {H H' : Hp} {s : Slot} {v : V} (r : Rl K L W ρ σ H) (st : Stp (L ++ W) [] H W' H') (q : Rl K (L ++ W) W' [s] [some v] H') :
    Rl K L (W' ++ W) (s :: ρ) (some v :: σ) H' ∧ Stp L W H (W' ++ W) H' := by
  have hh : ∀ G : Hp, hide G (W' ++ (L ++ W)) = hide G ((W' ++ W) ++ L) := fun G => hide_congr fun a => by
    simp only [List.mem_append]
    constructor
    · rintro (h | h | h)
      · exact .inl (.inl h)
      · exact .inr h
      · exact .inl (.inr h)
    · rintro ((h | h) | h)
      · exact .inl h
      · exact .inr (.inr h)
      · exact .inr (.inl h)
  have h0 : hide H ([] ++ (L ++ W)) = hide H (W ++ L) := hide_congr fun a => by simp only [List.mem_append, List.nil_append]; exact Or.comm
  have dw : ∀ a ∈ W, a ∉ W' := fun a h => q.dj a (by simp [h])
  have dl : ∀ a ∈ L, a ∉ W' := fun a h => q.dj a (by simp [h])
  have stp : Stp L W H (W' ++ W) H' := by
    refine ⟨?_, fun a h => ?_, fun a h => st.lk a (by simp [h])⟩
    · have e := st.ex
      rw [hh, h0] at e
      exact e
    · rcases List.mem_append.mp h with h | h
      · exact (st.new a h).elim (fun z => by simp at z) .inr
      · exact .inl h
  refine ⟨⟨?_, ?_, ?_, fun a h => by rw [st.lk a (by simp [h])]; exact r.lk a h⟩, stp⟩
  · have rr : RelE K (hide H' ((W' ++ W) ++ L)) H' W σ ρ := r.rel.mono stp.ex fun a h => st.lk a (by simp [h])
    have qq := q.rel
    rw [hh] at qq
    cases qq with
    | unb z => cases z with
      | nil => exact .unb rr
    | cons z1 z2 => cases z2 with
      | nil => rw [List.append_nil] at *; exact .cons z1 rr
  · exact List.nodup_append.mpr ⟨q.nd, r.nd, fun a ha b hb e => by subst e; exact dw a hb ha⟩
  · intro a ha z
    rcases List.mem_append.mp z with z | z
    · exact dl a ha z
    · exact r.dj a ha z
theorem Rl.joinE {K : PySem.W.Frag} {L W W' : List Addr} {ρ : Env} {σ : L2.St} {H H' : Hp} (r : Rl K L W ρ σ H) (st : Stp (L ++ W) [] H W' H') :
    Rl K L W ρ σ H' ∧ Stp L W H W H' ∧ Ex (hide H' (W' ++ (L ++ W))) (hide H' (W ++ L)) := by
  have h0 : hide H ([] ++ (L ++ W)) = hide H (W ++ L) := hide_congr fun a => by simp only [List.mem_append, List.nil_append]; exact Or.comm
  have e2 : Ex (hide H' (W' ++ (L ++ W))) (hide H' (W ++ L)) := hide_mono (Ex.refl _) fun a h => .inl (by simp only [List.mem_append] at h ⊢; rcases h with h | h <;> simp [h])
  have e := st.ex
  rw [h0] at e
  have e3 := e.trans e2
  exact ⟨⟨r.rel.mono e3 fun a h => st.lk a (by simp [h]), r.nd, r.dj, fun a h => by rw [st.lk a (by simp [h])]; exact r.lk a h⟩, ⟨e3, fun a h => .inl h, fun a h => st.lk a (by simp [h])⟩, e2⟩
section
variable {X : Cx} {Wx : WX} {K : PySem.W.Frag} {L W : List Addr} {ρ : Env} {σ : L2.St} {H : Hp} {Q : VK}
theorem spP_use {f : List D → FR} {vs : List V} {ds : List D} (r : Rl K L W ρ σ H) (q : Reps K (hide H (W ++ L)) vs ds) (p : Post K Wx σ L W H Q ((f ds).res ρ)) : spP K f vs H Q fun c d H' => Wx c d σ H' := by
  have h0 : hide H (L ++ W) = hide H (W ++ L) := hide_congr fun a => by simp only [List.mem_append]; exact Or.comm
  refine ⟨L ++ W, ds, fun a h => r.alloc a (by simp only [List.mem_append] at h ⊢; exact h.symm), by rw [h0]; exact q, ?_⟩
  revert p
  cases f ds with
  | stuck => exact fun p => p
  | ok s => exact fun p v W' H' st rl => let z := r.join st rl; p v (W' ++ W) H' z.2 z.1
  | er e => exact fun p c dd W' H' st al er => let z := r.joinE st; p c dd W H' z.2.1 z.1 (er.mono z.2.2)
theorem run_at {k : Nat} {f : Addr} {fd : FuncData} {ps : List Str} {sp : Sp} {pins : List (Addr × Obj)} {s : Shared} {us ws : List Value} {ks : List Str} {vs zs : List V} {n : Nat} {g : List Value → List Value → List Value} {gV : List V → List V → List V}
    (F : FnG X.prog X.w X.K X.mg X.base k f fd ps sp) (hr : Rm k X.A) (tk : L2N.Takes X Wx) (hb : KBn X.K fd ps n ks g gV) (I : Inv X pins σ H s) (r : Vals vs us) (rz : Vals zs ws) (l1 : vs.length = n) (l2 : zs.length = ks.length)
    (h : sp (gV vs zs) H Q fun c d H' => Wx c d σ H') : wpAny (model X.prog X.w) X.A (call (.ref f) us (ks.zip ws)) (EP X pins σ Q) X.xe s := by
  refine wpAny_call (codeAny_mono (F.run X.A X.stack s H ⟨us, ks.zip ws⟩ (g us ws) (gV vs zs) Q _ hr I.env0 (hb.to s us ws I.kIn (r.length.symm.trans l1) (rz.length.symm.trans l2)) (hb.rel r rz) h) fun r s' hq => ?_)
  cases r with
  | error e => exact L2N.passAt tk σ pins H s e s' I hq
  | ok fl =>
    cases fl with
    | ret u => exact I.after hq
    | next => exact hq.elim
    | brk => exact hq.elim
    | cont => exact hq.elim
end
structure KBd (K : PySem.W.Frag) (fd : FuncData) (ps : List Str) (n : Nat) (ks : List Str) (gD : List D → List D → List D) : Prop where
  ex : ∃ g gV, KBn K fd ps n ks g gV ∧ ∀ (G : Hp) (vs zs : List V) (ds es : List D), Reps K G vs ds → Reps K G zs es → Reps K G (gV vs zs) (gD ds es)
@[simp] def callM (f : List D → FR) (n m : Nat) (gD : List D → List D → List D) (ma mk : M (List D)) : M Slot := fun ρ => (ma ρ).bd fun ds ρ1 => (mk ρ1).bd fun es ρ2 =>
  if ds.length = n ∧ es.length = m then (f (gD ds es)).res ρ2 else .stuck
section
variable {X : Cx} {Wx : WX} {k n : Nat} {f : Addr} {fd : FuncData} {ps ks : List Str} {F : List D → FR} {x : Str} {p pos : Pos} {e : Expr} {es : List Expr} {kws : List Keyword} {ma mk : M (List D)} {gD : List D → List D → List D}
theorem px_call (G : FnG X.prog X.w X.K X.mg X.base k f fd ps (spP X.K F)) (hr : Rm k X.A) (tk : L2N.Takes X Wx) (hb : KBd X.K fd ps n [] gD) (hm : X.mg x = some (.ref f)) (hk : PySem.W.keepIn X.K (.ref f) = true)
    (ha : PAs X Wx (e :: es) ma) (hg : Gl X x := by rfl) (hdb : (x == ("__debug__" : Str)) = false := by decide) (he : starEach (e :: es) X.env = (false, eval e X.env) :: starEach es X.env := by rfl) (hpl : (backTo pos (starEach es X.env)).any (·.1) = false := by rfl) :
    PX X Wx (.Call (.Name x p) (e :: es) [] pos) (callM F n 0 gD ma nilA) := by
  obtain ⟨g, gV, hb, hD⟩ := hb.ex
  refine ⟨fun pins s σ H Q I h => ?_⟩
  obtain ⟨ρ, L, W, rl, p⟩ := h
  refine wpAny_Call_Name_kw (ld_glob I hg hm ?_ hdb)
  have h := bd_A (T := Post X.K Wx σ L W H Q) (R := fun vs H1 => ∃ ds ρ1 W1, Rl X.K L W1 ρ1 σ H1 ∧ Reps X.K (hide H1 (W1 ++ L)) vs ds ∧ Post X.K Wx σ L W1 H1 Q (if ds.length = n ∧ ([] : List D).length = 0 then (F (gD ds [])).res ρ1 else .stuck)) rl p fun vs ds ρ1 W1 H1 st1 rl1 q1 p => ⟨ds, ρ1, W1, rl1, q1, p.step st1⟩
  refine PySem.W.callWith_K (h₀ := X.base) I.ok.mod.kin hk (thn (ha.run pos pins s σ H _ I h) fun us s1 ⟨vs, H1, I1, r, ds, ρ1, W1, rl1, q1, p⟩ => ⟨I1.kIn, ?_⟩) he hpl
  by_cases c : ds.length = n ∧ ([] : List D).length = 0
  · rw [if_pos c] at p
    exact run_at (ks := []) (ws := []) (zs := []) G hr tk hb I1 r .nil (q1.length.trans c.1) rfl (spP_use rl1 (hD _ _ _ _ _ q1 .nil) p)
  · rw [if_neg c] at p
    exact p.elim
theorem px_callK0 (G : FnG X.prog X.w X.K X.mg X.base k f fd ps (spP X.K F)) (hr : Rm k X.A) (tk : L2N.Takes X Wx) (hb : KBd X.K fd ps 0 ks gD) (hm : X.mg x = some (.ref f)) (hk : PySem.W.keepIn X.K (.ref f) = true)
    (hkw : PKs X Wx kws mk) (hall : (backToKw pos (keywordEach kws X.env)).all (·.1.isSome) = true := by rfl) (hks : (backToKw pos (keywordEach kws X.env)).filterMap (·.1) = ks := by rfl)
    (hg : Gl X x := by rfl) (hdb : (x == ("__debug__" : Str)) = false := by decide)
    (hpl : ((backTo pos (starEach [] X.env)).any (·.1) || (backToKw pos (keywordEach kws X.env)).any (·.1.isNone)) = false := by rfl) :
    PX X Wx (.Call (.Name x p) [] kws pos) (callM F 0 ks.length gD nilA mk) := by
  obtain ⟨g, gV, hb, hD⟩ := hb.ex
  refine ⟨fun pins s σ H Q I h => ?_⟩
  obtain ⟨ρ, L, W, rl, p⟩ := h
  refine wpAny_Call_Name_kw (ld_glob I hg hm ?_ hdb)
  have p : Post X.K Wx σ L W H Q ((mk ρ).bd fun es ρ2 => if ([] : List D).length = 0 ∧ es.length = ks.length then (F (gD [] es)).res ρ2 else .stuck) := p
  have h2 := bd_A (T := Post X.K Wx σ L W H Q) (R := fun zs H2 => ∃ es ρ2 W2, Rl X.K L W2 ρ2 σ H2 ∧ Reps X.K (hide H2 (W2 ++ L)) zs es ∧ Post X.K Wx σ L W2 H2 Q (if ([] : List D).length = 0 ∧ es.length = ks.length then (F (gD [] es)).res ρ2 else .stuck)) rl p fun zs es ρ2 W2 H2 st2 rl2 q2 p => ⟨es, ρ2, W2, rl2, q2, p.step st2⟩
  refine PySem.W.callWith_KW0 (h₀ := X.base) I.ok.mod.kin hk hall (thn (hkw.run pos pins s σ H _ I h2) fun ws s2 ⟨zs, H2, I2, rz, es, ρ2, W2, rl2, q2, p⟩ => ⟨I2.kIn, ?_⟩) hpl
  rw [hks]
  by_cases c : ([] : List D).length = 0 ∧ es.length = ks.length
  · rw [if_pos c] at p
    exact run_at (us := []) (vs := []) G hr tk hb I2 .nil rz rfl (q2.length.trans c.2) (spP_use rl2 (hD _ _ _ _ _ .nil q2) p)
  · rw [if_neg c] at p
    exact p.elim
@[simp] def fzM (m : M Slot) : M D := fun ρ => (m ρ).bd fun s ρ1 => ofO s.fz ρ1
theorem Rl.fz {K : PySem.W.Frag} {L W : List Addr} {ρ : Env} {σ : L2.St} {H : Hp} {s : Slot} {d : D} {v : V} (r : Rl K L W (s :: ρ) (some v :: σ) H) (e : s.fz = some d) : ∃ W', Stp L W H W' H ∧ Rl K L W' (.val d :: ρ) (some v :: σ) H := by
  obtain ⟨rel, nd, dj, lk⟩ := r
  cases rel with
  | unb _ => cases e
  | @cons f g _ _ _ _ q r =>
    have r0 : Rl K L (f ++ g) (s :: ρ) (some v :: σ) H := ⟨.cons q r, nd, dj, lk⟩
    have z := r0.less (A := []) (B := f) (C := g) (ρ' := .unb :: ρ) (σ' := some v :: σ) (by simp) (.unb r)
    refine ⟨g, z.2, ⟨.cons (f := []) (.val (q.fz z.2.ex (fun a ha => ?_) e)) (r.mono z.2.ex fun _ _ => rfl), z.1.nd, z.1.dj, lk⟩⟩
    refine hide_out fun m => ?_
    rcases List.mem_append.mp m with m | m
    · exact (List.nodup_append.mp nd).2.2 a ha a m rfl
    · exact dj a m (by simp [ha])
theorem px_fz {e : Expr} {m : M Slot} (h : PX X Wx e m) : PD X Wx e (fzM m) := by
  refine PE_imp h fun σ H Q h => ?_
  obtain ⟨ρ, L, W, rl, p⟩ := h
  simp only [vl, fzM, map_bd] at p
  refine bd_S (T := Post X.K Wx σ L W H Q) rl p fun x s ρ1 W1 H1 st1 rl1 p => ?_
  obtain ⟨d, e, p⟩ := Post.ofO p
  obtain ⟨W2, st2, rl2⟩ := rl1.fz e
  exact p x W2 H1 (st1.trans st2) rl2
end
end P
namespace P
open PySem PySem.Spec PyProof.Rows L2
theorem Rl.sub {K : PySem.W.Frag} {L W W' : List Addr} {ρ ρ' : Env} {σ σ' : L2.St} {H : Hp} (r : Rl K L W ρ σ H) (h : RelE K (hide H (W ++ L)) H W' σ' ρ') (nd : W'.Nodup) (sub : ∀ a ∈ W', a ∈ W) : Rl K L W' ρ' σ' H ∧ Stp L W H W' H := by
  have ex : Ex (hide H (W ++ L)) (hide H (W' ++ L)) := hide_mono (Ex.refl _) fun a h => by
    simp only [List.mem_append] at h ⊢
    exact .inl (h.imp (sub a) id)
  exact ⟨⟨h.mono ex fun _ _ => rfl, nd, fun a ha q => r.dj a ha (sub a q), r.lk⟩, ⟨ex, fun a h => .inl (sub a h), fun _ _ => rfl⟩⟩
theorem Rl.store {K : PySem.W.Frag} {L W : List Addr} {ρ : Env} {σ : L2.St} {H : Hp} {s : Slot} {v : V} (i : Nat) (r : Rl K L W (s :: ρ) (some v :: σ) H) (hs : s ≠ .unb) : ∃ W', Stp L W H W' H ∧ Rl K L W' (ρ.set i s) (σ.set i (some v)) H := by
  have r0 := r
  obtain ⟨rel, nd, dj, lk⟩ := r
  cases rel with
  | unb _ => exact absurd rfl hs
  | @cons f g _ _ _ _ q r =>
    by_cases hi : i < ρ.length
    · obtain ⟨A, B, C, e, h⟩ := r.set i q hi
      subst e
      have z := r0.sub h ?_ (fun a ha => ?_)
      · exact ⟨_, z.2, z.1⟩
      · have p : (A ++ f ++ C).Perm (f ++ A ++ C) := List.Perm.append_right C List.perm_append_comm
        refine p.nodup_iff.mpr ?_
        refine nd.sublist ?_
        rw [List.append_assoc, List.append_assoc]
        refine List.Sublist.append_left (List.Sublist.append_left (List.sublist_append_right B C) A) f
      · simp only [List.mem_append] at ha ⊢
        rcases ha with (h | h) | h <;> simp [h]
    · have e1 : ρ.set i s = ρ := List.set_eq_of_length_le (by omega)
      have e2 : σ.set i (some v) = σ := List.set_eq_of_length_le (by rw [r.length]; omega)
      rw [e1, e2]
      have z := r0.sub r (List.nodup_append.mp nd).2.1 (fun a ha => by simp [ha])
      exact ⟨_, z.2, z.1⟩
theorem Rl.dropTop {K : PySem.W.Frag} {L W : List Addr} {ρ : Env} {σ : L2.St} {H : Hp} {s : Slot} {v : V} (r : Rl K L W (s :: ρ) (some v :: σ) H) : ∃ W', Stp L W H W' H ∧ Rl K L W' ρ σ H := by
  have r0 := r
  obtain ⟨rel, nd, dj, lk⟩ := r
  cases rel with
  | unb q => have z := r0.sub q nd (fun a ha => ha); exact ⟨_, z.2, z.1⟩
  | cons q r => have z := r0.sub r (List.nodup_append.mp nd).2.1 (fun a ha => by simp [ha]); exact ⟨_, z.2, z.1⟩
@[simp] def seqS (a b : S) : S := fun ρ => match a ρ with
  | .nx ρ1 => b ρ1
  | o => o
@[simp] def nop : S := fun ρ => .nx ρ
@[simp] def setS (i : Nat) (m : M Slot) : S := fun ρ => match m ρ with
  | .ok .unb _ => .stuck
  | .ok s ρ1 => .nx (ρ1.set i s)
  | .er e ρ1 => .er e ρ1
  | .stuck => .stuck
@[simp] def dropS (m : M Slot) : S := fun ρ => match m ρ with
  | .ok _ ρ1 => .nx ρ1
  | .er e ρ1 => .er e ρ1
  | .stuck => .stuck
@[simp] def retS (m : M Slot) : S := fun ρ => match m ρ with
  | .ok s ρ1 => .rt s ρ1
  | .er e ρ1 => .er e ρ1
  | .stuck => .stuck
@[simp] def retN : S := fun ρ => .rt (.val .non) ρ
@[simp] def ifS (c : M Bool) (a b : S) : S := fun ρ => match c ρ with
  | .ok k ρ1 => if k then a ρ1 else b ρ1
  | .er e ρ1 => .er e ρ1
  | .stuck => .stuck
@[simp] def brkS : S := fun ρ => .bk ρ
@[simp] def cntS : S := fun ρ => .ct ρ
section
variable {X : Cx} {Wx : WX} {J : List Nat}
theorem PostS.seq {K : PySem.W.Frag} {σ : L2.St} {L W : List Addr} {H : Hp} {E : Ends} {b : S} : ∀ {o : Out}, PostS K Wx J σ L W H E (match o with
    | .nx ρ1 => b ρ1
    | o => o) → PostS K Wx J σ L W H { E with nx := tS K Wx J b E } o
  | .nx ρ1, p => fun σ' W' H' ag st rl => ⟨ρ1, L, W', rl, p.step ag st⟩
  | .bk _, p => p
  | .ct _, p => p
  | .rt _ _, p => p
  | .er _ _, p => p
  | .stuck, p => p
theorem pst_nil : PSL X Wx J [] nop := PSs_imp pss_nil fun E σ H h => by
  obtain ⟨ρ, L, W, rl, p⟩ := h
  exact p σ W H .refl .refl rl
theorem pst_cons {st : Stmt} {rest : List Stmt} {a b : S} (h1 : PSt X Wx J st a) (h2 : PSL X Wx J rest b) : PSL X Wx J (st :: rest) (seqS a b) := PSs_imp (pss_cons h1 h2) fun E σ H h => by
  obtain ⟨ρ, L, W, rl, p⟩ := h
  exact ⟨ρ, L, W, rl, PostS.seq p⟩
theorem pst_one {st : Stmt} {a : S} (h1 : PSt X Wx J st a) : PSL X Wx J [st] a := pss_one h1
theorem setS_eq (i : Nat) (m : M Slot) (ρ : Env) : setS i m ρ = Out.of ((m ρ).bd fun s ρ1 => match s with
    | .unb => .stuck
    | s => .ok (.nx (ρ1.set i s)) ρ1) := by
  unfold setS
  cases m ρ with
  | ok s ρ1 => cases s <;> rfl
  | er e ρ1 => rfl
  | stuck => rfl
theorem pst_set {i : Nat} {x : Str} {e : Expr} {m : M Slot} {pos pos' : Pos} (hN : X.N.Nodup) (he : PX X Wx e m) (hJ : J.contains i = false := by rfl) (hi : X.N[i]? = some x := by rfl) (hx : Loc X.env.scope x := by first | exact .inl rfl | exact .inr rfl) (hs : swapsWith e (some (.Name x pos')) pos.line X.env = pure false := by rfl)
    (hf : X.fn x = true ∨ X.env.scope.names.lookup x = some .local := by first | exact .inl rfl | exact .inr rfl | assumption) : PSt X Wx J (.Assign [.Name x pos'] e pos) (setS i m) := by
  refine PS_imp (ps_set hN hi hx he hs hf) fun E σ H h => ?_
  obtain ⟨ρ, L, W, rl, p⟩ := h
  rw [setS_eq] at p
  refine bd_S (T := fun r => PostS X.K Wx J σ L W H E (Out.of r)) rl p (fun v s ρ1 W1 H1 st1 rl1 p => ?_) id (fun e ρ' h c dd W' H' st r er => h c dd σ W' H' .refl st r er)
  have hs : s ≠ .unb := fun z => by subst z; exact p.elim
  obtain ⟨W2, st2, rl2⟩ := rl1.store i hs
  have p : PostS X.K Wx J σ L W H E (.nx (ρ1.set i s)) := by cases s <;> first | exact p | exact absurd rfl hs
  exact p _ W2 H1 ⟨by simp, fun j hj => List.getElem?_set_ne fun z => by subst z; simp [hj] at hJ⟩ (st1.trans st2) rl2
theorem pst_expr {e : Expr} {m : M Slot} {pos : Pos} (he : PX X Wx e m) (hs : swapsWith e none pos.line X.env = pure false := by rfl) : PSt X Wx J (.Expr e pos) (dropS m) := by
  refine PS_imp (ps_expr he hs) fun E σ H h => ?_
  obtain ⟨ρ, L, W, rl, p⟩ := h
  have p : PostS X.K Wx J σ L W H E (Out.of ((m ρ).bd fun s ρ1 => .ok (.nx ρ1) ρ1)) := by
    revert p; show PostS X.K Wx J σ L W H E (dropS m ρ) → _; unfold dropS; cases m ρ <;> exact id
  refine bd_S (T := fun r => PostS X.K Wx J σ L W H E (Out.of r)) rl p (fun v s ρ1 W1 H1 st1 rl1 p => ?_) id (fun e ρ' h c dd W' H' st r er => h c dd σ W' H' .refl st r er)
  obtain ⟨W2, st2, rl2⟩ := rl1.dropTop
  exact p _ W2 H1 .refl (st1.trans st2) rl2
theorem pst_ret {e : Expr} {m : M Slot} {pos : Pos} (he : PX X Wx e m) : PSt X Wx J (.Return (some e) pos) (retS m) := by
  refine PS_imp (ps_ret he) fun E σ H h => ?_
  obtain ⟨ρ, L, W, rl, p⟩ := h
  have p : PostS X.K Wx J σ L W H E (Out.of ((m ρ).bd fun s ρ1 => .ok (.rt s ρ1) ρ1)) := by
    revert p; show PostS X.K Wx J σ L W H E (retS m ρ) → _; unfold retS; cases m ρ <;> exact id
  refine bd_S (T := fun r => PostS X.K Wx J σ L W H E (Out.of r)) rl p (fun v s ρ1 W1 H1 st1 rl1 p => ?_) id (fun e ρ' h c dd W' H' st r er => h c dd σ W' H' .refl st r er)
  exact p v σ W1 H1 .refl st1 rl1
theorem pst_if {c : Expr} {as bs : List Stmt} {mc : M Bool} {a b : S} {pos : Pos} (hc : PB X Wx c mc) (ha : PSL X Wx J as a) (hb : PSL X Wx J bs b) : PSt X Wx J (.If c as bs pos) (ifS mc a b) := by
  refine PS_imp (ps_if hc ha hb) fun E σ H h => ?_
  obtain ⟨ρ, L, W, rl, p⟩ := h
  have p : PostS X.K Wx J σ L W H E (Out.of ((mc ρ).bd fun k ρ1 => .ok (if k then a ρ1 else b ρ1) ρ1)) := by
    revert p; show PostS X.K Wx J σ L W H E (ifS mc a b ρ) → _; unfold ifS; cases mc ρ <;> exact id
  refine bd_B (T := fun r => PostS X.K Wx J σ L W H E (Out.of r)) rl p (fun k ρ1 W1 H1 st1 rl1 p => ?_) id (fun e ρ' h c dd W' H' st r er => h c dd σ W' H' .refl st r er)
  cases k with
  | true => exact iteT ⟨ρ1, L, W1, rl1, PostS.step .refl st1 p⟩
  | false => exact iteF ⟨ρ1, L, W1, rl1, PostS.step .refl st1 p⟩
@[simp] def lpO (k : S) : Out → Out
  | .nx ρ => k ρ
  | .ct ρ => k ρ
  | .bk ρ => .nx ρ
  | .rt s ρ => .rt s ρ
  | .er e ρ => .er e ρ
  | .stuck => .stuck
def forL (b : D → Env → Option Env) (body : S) : List D → S
  | [], ρ => .nx ρ
  | d :: ds, ρ => match b d ρ with
    | none => .stuck
    | some ρ1 => lpO (forL b body ds) (body ρ1)
theorem forL_cons (b : D → Env → Option Env) (body : S) (d : D) (ds : List D) (ρ : Env) : forL b body (d :: ds) ρ = match b d ρ with
    | none => .stuck
    | some ρ1 => lpO (forL b body ds) (body ρ1) := rfl
theorem PostS.loop {K : PySem.W.Frag} {σ : L2.St} {L W : List Addr} {H : Hp} {E : Ends} {k : S} {N : L2.St → Hp → Prop} (hN : ∀ ρ' σ' W' H', Ag J σ σ' → Stp L W H W' H' → Rl K L W' ρ' σ' H' → PostS K Wx J σ' L W' H' E (k ρ') → N σ' H') :
    ∀ {o : Out}, PostS K Wx J σ L W H E (lpO k o) → PostS K Wx J σ L W H { E with nx := N, ct := N, bk := E.nx } o
  | .nx ρ, p => fun σ' W' H' ag st rl => hN ρ σ' W' H' ag st rl (PostS.step ag st p)
  | .ct ρ, p => fun σ' W' H' ag st rl => hN ρ σ' W' H' ag st rl (PostS.step ag st p)
  | .bk _, p => p
  | .rt _ _, p => p
  | .er _ _, p => p
  | .stuck, p => p
@[simp] def forS (mi : M (List D)) (b : D → Env → Option Env) (body : S) : S := fun ρ => match mi ρ with
  | .ok ds ρ1 => forL b body ds ρ1
  | .er e ρ1 => .er e ρ1
  | .stuck => .stuck
def ItOk (K : PySem.W.Frag) (L W0 : List Addr) (H0 : Hp) (J : It) (ds : List D) : Prop := ∀ W H, Stp L W0 H0 W H → (∀ a ∈ W ++ L, Al (H a)) →
  (∀ i, ds.length ≤ i → J.stop i H) ∧ ∀ i d, ds[i]? = some d → J.go i H ∧ ∀ x H', J.yld i H x H' → Ex H H' ∧ Rep K (hide H' (W ++ L)) x d
def PostI (K : PySem.W.Frag) (Wx : WX) (σ : L2.St) (L W : List Addr) (H : Hp) (R : It → Hp → Prop) : Res (List D) → Prop
  | .ok ds ρ' => ∀ J W' H', Stp L W H W' H' → Rl K L W' ρ' σ H' → ItOk K L W' H' J ds → R J H'
  | .er e ρ' => ∀ c dd W' H', Stp L W H W' H' → Rl K L W' ρ' σ H' → ErrRep K (hide H' (W' ++ L)) c dd e → Wx c dd σ H'
  | .stuck => False
def tI (K : PySem.W.Frag) (Wx : WX) (m : M (List D)) : TI := fun σ H R => ∃ ρ L W, Rl K L W ρ σ H ∧ PostI K Wx σ L W H R (m ρ)
def PIt (X : Cx) (Wx : WX) (tg iter : Expr) (m : M (List D)) : Prop := PI X tg iter (tI X.K Wx m)
def But (js : List Nat) (σ σ' : L2.St) : Prop := σ'.length = σ.length ∧ ∀ j, j ∉ js → σ'[j]? = σ[j]?
theorem But.trans {js ks : List Nat} {σ σ1 σ2 : L2.St} (a : But js σ σ1) (b : But ks σ1 σ2) : But (js ++ ks) σ σ2 := ⟨b.1.trans a.1, fun j h => by
  simp only [List.mem_append, not_or] at h
  exact (b.2 j h.2).trans (a.2 j h.1)⟩
def tG (K : PySem.W.Frag) (b : D → Env → Option Env) (js : List Nat) : TG := fun v σ H Q => ∃ ρ L W d, Rl K L W ρ σ H ∧ Rep K (hide H (W ++ L)) v d ∧ ∃ ρ', b d ρ = some ρ' ∧ ∀ σ' W', Stp L W H W' H → Rl K L W' ρ' σ' H → But js σ σ' → Q σ' H
def PGt (X : Cx) (tg : Expr) (b : D → Env → Option Env) (js : List Nat) : Prop := PG X tg (tG X.K b js)
theorem pst_for {tg iter : Expr} {body : List Stmt} {mi : M (List D)} {bd : D → Env → Option Env} {js : List Nat} {b : S} {pos : Pos} (hp : PassesOwn (model X.prog X.w) X.A X.env X.xe) (hc : X.calm = true) (hi : PIt X Wx tg iter mi) (hg : PGt X tg bd js) (hb : PSL X Wx J body b) (hJ : js.all (fun j => !J.contains j) = true := by rfl)
    (hs : ∀ x, foldedSetIterable iter X.env x = pure x := by intro _; rfl) : PSt X Wx J (.For tg iter body [] pos) (forS mi bd b) := by
  refine PS_imp (ps_for hp hc hi hg hb hs) fun E σ H h => ?_
  obtain ⟨ρ, L, W, rl, p⟩ := h
  refine ⟨ρ, L, W, rl, ?_⟩
  revert p
  show PostS X.K Wx J σ L W H E (forS mi bd b ρ) → _
  unfold forS
  cases mi ρ with
  | stuck => exact id
  | er e ρ' => exact fun p c dd W' H' st r er => p c dd σ W' H' .refl st r er
  | ok ds ρ1 =>
    intro p Jt W1 H1 st1 rl1 it
    refine ⟨fun i m σ' H' => ∃ ρ' W', m = ds.length - i ∧ Ag J σ σ' ∧ Stp L W1 H1 W' H' ∧ Rl X.K L W' ρ' σ' H' ∧ PostS X.K Wx J σ' L W' H' E (forL bd b (ds.drop i) ρ'), ⟨ds.length, ρ1, W1, rfl, .refl, .refl, rl1, PostS.step .refl st1 p⟩, fun i m σ2 H2 ⟨ρ2, W2, hm, ag2, st2, rl2, p⟩ => ?_⟩
    obtain ⟨h1, h2⟩ := it W2 H2 st2 rl2.alloc
    by_cases hl : i < ds.length
    · have hd : ds.drop i = ds[i] :: ds.drop (i + 1) := List.drop_eq_getElem_cons hl
      rw [hd] at p
      obtain ⟨go, yl⟩ := h2 i ds[i] (List.getElem?_eq_getElem hl)
      refine .inr ⟨go, fun σ' H' => ∃ ρ' W', Ag J σ σ' ∧ Stp L W1 H1 W' H' ∧ Rl X.K L W' ρ' σ' H' ∧ PostS X.K Wx J σ' L W' H' E (forL bd b (ds.drop (i + 1)) ρ'), fun σ' H' ⟨ρ', W', a0, a1, a2, a3⟩ => ⟨m - 1, by omega, ρ', W', by omega, a0, a1, a2, a3⟩, fun x H3 hy => ?_⟩
      obtain ⟨ex, q⟩ := yl x H3 hy
      have rl3 := rl2.ex ex
      have p : PostS X.K Wx J σ2 L W2 H3 E (forL bd b (ds[i] :: ds.drop (i + 1)) ρ2) := PostS.step .refl (rl2.stp ex) p
      have st3 := st2.trans (rl2.stp ex)
      rw [forL_cons] at p
      cases e : bd ds[i] ρ2 with
      | none => rw [e] at p; exact p.elim
      | some ρ3 =>
        rw [e] at p
        exact ⟨ρ2, L, W2, ds[i], rl3, q, ρ3, e, fun σ4 W4 st4 rl4 bt => by
          have ag4 : Ag J σ2 σ4 := ⟨bt.1, fun j hj => bt.2 j fun z => by
            have := List.all_eq_true.mp hJ j z
            simp [hj] at this⟩
          exact ⟨ρ3, L, W4, rl4, PostS.loop (fun ρ' σ' W' H' ag st rl p => ⟨ρ', W', ag2.trans (ag4.trans ag), st3.trans (st4.trans st), rl, p⟩) (PostS.step (r := lpO (forL bd b (ds.drop (i + 1))) (b ρ3)) ag4 st4 p)⟩⟩
    · have hd : ds.drop i = [] := List.drop_eq_nil_of_le (by omega)
      rw [hd] at p
      exact .inl ⟨h1 i (by omega), p σ2 W2 H2 .refl .refl rl2⟩
@[simp] def bName (i : Nat) : D → Env → Option Env := fun d ρ => some (ρ.set i (.val d))
def bList : List (D → Env → Option Env) → List D → Env → Option Env
  | [], [], ρ => some ρ
  | b :: bs, d :: ds, ρ => (b d ρ).bind (bList bs ds)
  | _, _, _ => none
@[simp] def bTup (bs : List (D → Env → Option Env)) : D → Env → Option Env
  | .tup ds, ρ => bList bs ds ρ
  | _, _ => none
theorem pgt_name {i : Nat} {x : Str} {pos : Pos} (hN : X.N.Nodup) (hi : X.N[i]? = some x := by rfl) (hx : Loc X.env.scope x := by first | exact .inl rfl | exact .inr rfl) (hf : X.fn x = true ∨ X.env.scope.names.lookup x = some .local := by first | exact .inl rfl | exact .inr rfl | assumption) : PGt X (.Name x pos) (bName i) [i] := by
  refine ⟨fun pins s σ H v u Q I r h => (pg_name hN hi hx hf).run pins s σ H v u Q I r ?_⟩
  obtain ⟨ρ, L, W, d, rl, q, ρ', e, k⟩ := h
  cases e
  obtain ⟨W2, st2, rl2⟩ := (rl.push q).store i (by simp)
  exact k _ W2 st2 rl2 ⟨by simp, fun j h => List.getElem?_set_ne fun z => h (by simp [z])⟩
def tGs (K : PySem.W.Frag) (bs : List (D → Env → Option Env)) (js : List Nat) : TGs := fun vs σ H Q => ∃ ρ L W ds, Rl K L W ρ σ H ∧ Reps K (hide H (W ++ L)) vs ds ∧ ∃ ρ', bList bs ds ρ = some ρ' ∧ ∀ σ' W', Stp L W H W' H → Rl K L W' ρ' σ' H → But js σ σ' → Q σ' H
def PGts (X : Cx) (ts : List Expr) (bs : List (D → Env → Option Env)) (js : List Nat) : Prop := PGs X ts (tGs X.K bs js)
theorem pgts_nil : PGts X [] [] [] := by
  refine ⟨fun pins s σ H vs us Q I r h => pgs_nil.run pins s σ H vs us Q I r ?_⟩
  obtain ⟨ρ, L, W, ds, rl, q, ρ', e, k⟩ := h
  cases ds with
  | nil => cases q; cases e; exact ⟨rfl, k σ W .refl rl ⟨rfl, fun _ _ => rfl⟩⟩
  | cons d ds => cases e
theorem pgts_cons {e : Expr} {es : List Expr} {b : D → Env → Option Env} {bs : List (D → Env → Option Env)} {js ks : List Nat} (h1 : PGt X e b js) (h2 : PGts X es bs ks)
    (hs : (assignEach (e :: es) X.env).map (·.2) = assign e X.env :: (assignEach es X.env).map (·.2) := by rfl) : PGts X (e :: es) (b :: bs) (js ++ ks) := by
  refine ⟨fun pins s σ H vs us Q I r h => (pgs_cons h1 h2 hs).run pins s σ H vs us Q I r ?_⟩
  obtain ⟨ρ, L, W, ds, rl, q, ρ', e, k⟩ := h
  cases ds with
  | nil => cases e
  | cons d ds =>
    cases q with
    | cons q1 q2 =>
      have e : (b d ρ).bind (bList bs ds) = some ρ' := e
      cases e1 : b d ρ with
      | none => rw [e1] at e; cases e
      | some ρ1 =>
        rw [e1] at e
        exact ⟨_, _, rfl, ρ, L, W, d, rl, q1, ρ1, e1, fun σ1 W1 st1 rl1 b1 => ⟨ρ1, L, W1, ds, rl1, st1.reps q2, ρ', e, fun σ2 W2 st2 rl2 b2 => k σ2 W2 (st1.trans st2) rl2 (b1.trans b2)⟩⟩
theorem pgt_tup {es : List Expr} {kk : Nat} {bs : List (D → Env → Option Env)} {js : List Nat} {n : Nat} {pos : Pos} (hc : X.calm = true) (h : PGts X es bs js) (hb : bs.length = n := by rfl)
    (hn : (assignEach es X.env).length = n := by rfl) (hst : (assignEach es X.env).findIdx? (·.1) = none := by rfl) : PGt X (.Tuple es kk pos) (bTup bs) js := by
  refine ⟨fun pins s σ H v u Q I r hq => (pg_tup hc h hn hst).run pins s σ H v u Q I r ?_⟩
  obtain ⟨ρ, L, W, d, rl, q, ρ', e, k⟩ := hq
  cases d with
  | tup ds =>
    have e : bList bs ds ρ = some ρ' := e
    have len : ∀ (bs : List (D → Env → Option Env)) (ds : List D) (ρ ρ' : Env), bList bs ds ρ = some ρ' → ds.length = bs.length := by
      intro bs
      induction bs with
      | nil => intro ds ρ ρ' e; cases ds with
        | nil => rfl
        | cons _ _ => cases e
      | cons b bs ih => intro ds ρ ρ' e; cases ds with
        | nil => cases e
        | cons d ds =>
          have e : (b d ρ).bind (bList bs ds) = some ρ' := e
          cases e1 : b d ρ with
          | none => rw [e1] at e; cases e
          | some ρ1 => rw [e1] at e; exact congrArg (· + 1) (ih ds ρ1 ρ' e)
    cases q with
    | tup hq rs => exact ⟨_, _, rfl, ex_t hide_ex (.inl (.inl hq)), rs.length.trans ((len _ _ _ _ e).trans hb), ρ, L, W, ds, rl, rs, ρ', e, k⟩
  | _ => cases e
end
end P
namespace P
open PySem PySem.Spec PyProof.Rows L2
@[simp] def wipeP (ρ : Env) : List Nat → Env
  | [] => ρ
  | v :: vs => (wipeP ρ vs).set v .unb
@[simp] def restP (ρ0 ρ : Env) : List Nat → Env
  | [] => ρ
  | v :: vs => match ρ0[v]? with
    | some (.val d) => (restP ρ0 ρ vs).set v (.val d)
    | _ => restP ρ0 ρ vs
section
variable {K : PySem.W.Frag} {L W : List Addr} {ρ : Env} {σ : L2.St} {H : Hp}
theorem Rl.drop (r : Rl K L W ρ σ H) (i : Nat) (o : Option V) : ∃ W', Stp L W H W' H ∧ Rl K L W' (ρ.set i .unb) (σ.set i o) H := by
  obtain ⟨A, B, C, e, h⟩ := r.rel.drop i o
  have z := r.less e h
  exact ⟨_, z.2, z.1⟩
theorem Rl.wipe (r : Rl K L W ρ σ H) : ∀ vs : List Nat, ∃ W', Stp L W H W' H ∧ Rl K L W' (wipeP ρ vs) (L2.wipe σ vs) H
  | [] => ⟨W, .refl, r⟩
  | v :: vs => by
    obtain ⟨W1, st1, r1⟩ := Rl.wipe r vs
    obtain ⟨W2, st2, r2⟩ := r1.drop v none
    exact ⟨W2, st1.trans st2, r2⟩
theorem RelE.loose {G : Hp} : ∀ {W : List Addr} {σ : L2.St} {ρ : Env} (i : Nat) {o o' : Option V}, RelE K G H W (σ.set i o) ρ → (∀ s, ρ[i]? = some s → s = .unb) → σ[i]? = some o' → RelE K G H W σ ρ
  | _, [], _, i, _, _, r, _, e => by simp at e
  | _, a :: σ, _, 0, _, _, r, n, e => by
    cases r with
    | unb r => exact .unb r
    | cons h r => have := n _ rfl; subst this; cases h
  | _, a :: σ, _, i + 1, o, o', r, n, e => by
    rw [List.set_cons_succ] at r
    cases r with
    | unb r => exact .unb (RelE.loose i r (fun s hs => n s (by simpa using hs)) (o' := o') (by simpa using e))
    | cons h r => exact .cons h (RelE.loose i r (fun s hs => n s (by simpa using hs)) (o' := o') (by simpa using e))
theorem wipe_get_ne {σ : L2.St} {i : Nat} : ∀ {vs : List Nat}, i ∉ vs → (L2.wipe σ vs)[i]? = σ[i]?
  | [], _ => rfl
  | v :: vs, h => by
    have h1 : i ≠ v := fun z => h (by simp [z])
    have h2 : i ∉ vs := fun z => h (by simp [z])
    unfold L2.wipe
    rw [List.getElem?_set_ne (Ne.symm h1), wipe_get_ne h2]
theorem Rl.rest {L0 W0 : List Addr} {ρ0 : Env} {H0 : Hp} (r0 : Rl K L0 W0 ρ0 σ H0) : ∀ (vs : List Nat) {W : List Addr} {ρ : Env} {H : Hp}, Ex (hide H0 (W0 ++ L0)) (hide H (W ++ L)) → Rl K L W (wipeP ρ vs) (L2.wipe σ vs) H → ∃ W', Stp L W H W' H ∧ Rl K L W' (restP ρ0 (wipeP ρ vs) vs) σ H
  | [], W, ρ, H, _, r => ⟨W, .refl, r⟩
  | v :: vs, W, ρ, H, st, r => by
    -- the slot v first, then the others
    have base : ∃ W', Stp L W H W' H ∧ Rl K L W' (wipeP (ρ.set v .unb) vs) (L2.wipe σ vs) H ∧ (wipeP (ρ.set v .unb) vs) = wipeP ρ (v :: vs) := by
      have hc : ∀ (vs : List Nat) (ρ : Env), wipeP (ρ.set v .unb) vs = (wipeP ρ vs).set v .unb := by
        intro vs
        induction vs with
        | nil => intro ρ; rfl
        | cons u us ih =>
          intro ρ
          simp only [wipeP, ih]
          by_cases e : u = v
          · subst e; simp
          · exact List.set_comm _ _ (Ne.symm e)
      refine ⟨W, .refl, ?_, hc vs ρ⟩
      rw [hc vs ρ]
      have hr : RelE K (hide H (W ++ L)) H W ((L2.wipe σ vs).set v none) ((wipeP ρ vs).set v .unb) := r.rel
      have hl : (L2.wipe σ vs).length = (wipeP ρ vs).length := by simpa using hr.length
      by_cases hv : v < (L2.wipe σ vs).length
      · refine ⟨hr.loose v (o' := (L2.wipe σ vs)[v]) (fun s hs => ?_) (List.getElem?_eq_getElem hv), r.nd, r.dj, r.lk⟩
        rw [List.getElem?_set_self (by omega)] at hs
        exact (Option.some.inj hs).symm
      · have e1 : (L2.wipe σ vs).set v none = L2.wipe σ vs := List.set_eq_of_length_le (by omega)
        rw [e1] at hr
        exact ⟨hr, r.nd, r.dj, r.lk⟩
    obtain ⟨W1, st1, r1, e1⟩ := base
    obtain ⟨W2, st2, r2⟩ := Rl.rest r0 vs (st.trans st1.ex) r1
    rw [e1] at r2
    simp only [restP]
    split
    · rename_i d hd
      obtain ⟨x, hx, q⟩ := r0.var hd
      have q2 := q.mono ((st.trans st1.ex).trans st2.ex)
      obtain ⟨W3, st3, r3⟩ := (r2.push q2).store v (by simp)
      rw [show σ.set v (some x) = σ from by
        apply List.ext_getElem?
        intro j
        by_cases e : v = j
        · subst e
          have : v < σ.length := (List.getElem?_eq_some_iff.mp hx).1
          rw [List.getElem?_set_self this, hx]
        · rw [List.getElem?_set_ne e]] at r3
      exact ⟨W3, (st1.trans st2).trans st3, r3⟩
    · exact ⟨W2, st1.trans st2, r2⟩
end
def WX0 : WX := fun _ _ _ _ => False
def lcL (vs : List Nat) (b : D → Env → Option Env) (t : M Bool) (m : M D) : List D → Env → Res (List D)
  | [], ρ => .ok [] ρ
  | d :: ds, ρ => match b d ρ with
    | none => .stuck
    | some ρ1 => (match t ρ1 with
      | .ok true ρ2 => (match m ρ2 with
        | .ok e ρ3 => (lcL vs b t m ds (wipeP ρ3 vs)).map (e :: ·)
        | _ => .stuck)
      | .ok false ρ2 => lcL vs b t m ds (wipeP ρ2 vs)
      | _ => .stuck)
@[simp] def yesM : M Bool := fun ρ => .ok true ρ
@[simp] def lcM (vs : List Nat) (mi : M (List D)) (b : D → Env → Option Env) (t : M Bool) (m : M D) : M Slot := fun ρ => (mi ρ).bd fun ds ρ1 =>
  if ds.length ≤ 16777216 then (lcL vs b t m ds (wipeP ρ1 vs)).bd fun es ρ2 => .ok (.ownL (es.map .val)) (restP ρ1 ρ2 vs) else .stuck
theorem lcL_ner {vs : List Nat} {b : D → Env → Option Env} {t : M Bool} {m : M D} : ∀ (ds : List D) (ρ ρ' : Env) (e : Err), lcL vs b t m ds ρ ≠ .er e ρ'
  | [], ρ, ρ', e => fun h => by cases h
  | d :: ds, ρ, ρ', e => fun h => by
    unfold lcL at h
    split at h
    · cases h
    · split at h
      · split at h
        · rename_i e3 ρ3 _
          cases q : lcL vs b t m ds (wipeP ρ3 vs) with
          | ok es' ρ'' => rw [q] at h; cases h
          | er _ _ => exact lcL_ner ds _ _ _ q
          | stuck => rw [q] at h; cases h
        · cases h
      · exact lcL_ner ds _ _ _ h
      · cases h
theorem lcL_turn {vs : List Nat} {b : D → Env → Option Env} {t : M Bool} {m : M D} {d : D} {ds : List D} {ρ ρ' : Env} {es : List D} (h : lcL vs b t m (d :: ds) ρ = .ok es ρ') :
    ∃ ρ1, b d ρ = some ρ1 ∧ ((∃ ρ2 e ρ3 es', t ρ1 = .ok true ρ2 ∧ m ρ2 = .ok e ρ3 ∧ es = e :: es' ∧ lcL vs b t m ds (wipeP ρ3 vs) = .ok es' ρ') ∨ ∃ ρ2, t ρ1 = .ok false ρ2 ∧ lcL vs b t m ds (wipeP ρ2 vs) = .ok es ρ') := by
  unfold lcL at h
  split at h
  · cases h
  · rename_i ρ1 hb
    refine ⟨ρ1, hb, ?_⟩
    split at h
    · rename_i ρ2 ht
      split at h
      · rename_i e3 ρ3 hm
        cases q : lcL vs b t m ds (wipeP ρ3 vs) with
        | ok es' ρ'' => rw [q] at h; cases h; exact .inl ⟨ρ2, e3, ρ3, es', ht, hm, rfl, q⟩
        | er _ _ => rw [q] at h; cases h
        | stuck => rw [q] at h; cases h
      · cases h
    · rename_i ρ2 ht; exact .inr ⟨ρ2, ht, h⟩
    · cases h
section
variable {K : PySem.W.Frag} {L W : List Addr} {ρ : Env} {σ : L2.St} {H H' : Hp} {p : Addr} {o : HO}
theorem Rl.lock (r : Rl K L W ρ σ H) (hp : H p = none) (al : Al (some o) := by simp) : Rl K (p :: L) W ρ σ (upd H p o) := by
  have e : hide (upd H p o) (W ++ p :: L) = hide H (W ++ L) := by
    funext a
    by_cases h : a = p
    · subst h
      rw [hide_in (by simp)]
      by_cases m : a ∈ W ++ L
      · rw [hide_in m]
      · rw [hide_out m, hp]
    · by_cases m : a ∈ W ++ L
      · rw [hide_in m, hide_in (by simp only [List.mem_append, List.mem_cons] at m ⊢; rcases m with m | m <;> simp [m])]
      · rw [hide_out m, hide_out (by simp only [List.mem_append, List.mem_cons] at m ⊢; rintro (z | z | z); exact m (.inl z); exact h z; exact m (.inr z)), upd_ne h]
  have np : ∀ a ∈ W ++ L, a ≠ p := fun a ha z => by subst z; exact r.alloc a ha hp
  refine ⟨?_, r.nd, fun a ha => ?_, fun a ha => ?_⟩
  · rw [e]; exact r.rel.mono (Ex.refl _) fun a ha => upd_ne (np a (by simp [ha]))
  · rcases List.mem_cons.mp ha with h | h
    · subst h; exact fun z => np a (by simp [z]) rfl
    · exact r.dj a h
  · rcases List.mem_cons.mp ha with h | h
    · subst h; rw [upd_same]; exact al
    · rw [upd_ne (np a (by simp [h]))]; exact r.lk a h
theorem hide_upd (S : List Addr) (h : p ∈ S) : hide (upd H p o) S = hide H S := by
  funext a
  by_cases m : a ∈ S
  · rw [hide_in m, hide_in m]
  · rw [hide_out m, hide_out m, upd_ne fun z => m (by rw [z]; exact h)]
theorem Rl.relock (r : Rl K (p :: L) W ρ σ H) (al : Al (some o) := by simp) : Rl K (p :: L) W ρ σ (upd H p o) := by
  have np : p ∉ W := r.dj p (by simp)
  refine ⟨?_, r.nd, r.dj, fun a ha => ?_⟩
  · rw [hide_upd _ (by simp)]; exact r.rel.mono (Ex.refl _) fun a ha => upd_ne fun z => np (by rw [← z]; exact ha)
  · by_cases h : a = p
    · subst h; rw [upd_same]; exact al
    · rw [upd_ne h]; exact r.lk a ha
theorem Stp.unlock {W' : List Addr} (a : Stp (p :: L) W H W' H') : Stp L (p :: W) H (p :: W') H' := by
  have h : ∀ (V : List Addr) (G : Hp), hide G (V ++ p :: L) = hide G (p :: V ++ L) := fun V G => hide_congr fun a => by
    simp only [List.mem_append, List.mem_cons, List.cons_append]
    constructor
    · rintro (h | h | h); exact .inr (.inl h); exact .inl h; exact .inr (.inr h)
    · rintro (h | h | h); exact .inr (.inl h); exact .inl h; exact .inr (.inr h)
  refine ⟨?_, fun x hx => ?_, fun x hx => a.lk x (by simp [hx])⟩
  · rw [← h, ← h]; exact a.ex
  · rcases List.mem_cons.mp hx with e | hx
    · subst e; exact .inl (by simp)
    · exact (a.new x hx).imp (fun z => by simp [z]) id
end
def PTss (X : Cx) (ifs : List Expr) (m : M Bool) : Prop := PTs X ifs (tB' X.K WX0 m)
section
variable {X : Cx} {Wx : WX}
theorem pts_yes : PTss X [] yesM := ⟨fun pins s σ H Q I h => pts_nil.run pins s σ H Q I (by
  obtain ⟨ρ, L, W, rl, p⟩ := h
  exact p W H .refl rl)⟩
theorem Post.newL {K : PySem.W.Frag} {L W : List Addr} {ρ : Env} {σ : L2.St} {H H1 : Hp} {Q : VK} {ds : List D} {xs : List V} {p : Addr} (h : Post K Wx σ L W H Q (.ok (.ownL (ds.map .val)) ρ)) (r : Rl K L W ρ σ H) (e : Ex H H1) (hp : H p = none) (hx : H1 p = some (.lst xs)) (q : Reps K (hide H1 (p :: W ++ L)) xs ds) : Q (.ref p) H1 := by
  have np : ∀ a ∈ W ++ L, a ≠ p := fun a ha z => by subst z; exact r.alloc a ha hp
  have r1 := r.ex e
  have ex : Ex (hide H (W ++ L)) (hide H1 (p :: W ++ L)) := hide_mono e fun a h => by
    simp only [List.cons_append, List.mem_cons] at h
    rcases h with h | h
    · subst h; exact .inr hp
    · exact .inl h
  have e0 : ∀ a ∈ W ++ L, H1 a = H a := fun a ha => by
    cases q : H a with
    | none => exact absurd q (r.alloc a ha)
    | some o => exact e a o q
  refine h (.ref p) (p :: W) H1 ⟨ex, fun a h => ?_, fun a ha => e0 a (by simp [ha])⟩ ⟨.cons (f := [p]) (.ownL hx (relSs_vals q)) (r.rel.mono ex fun a ha => e0 a (by simp [ha])), ?_, ?_, r1.lk⟩
  · rcases List.mem_cons.mp h with h | h
    · subst h; exact .inr hp
    · exact .inl h
  · exact List.nodup_cons.mpr ⟨fun z => np p (by simp [z]) rfl, r.nd⟩
  · intro a ha z
    rcases List.mem_cons.mp z with z | z
    · exact np a (by simp [ha]) z
    · exact r.dj a ha z
theorem But.wipe {js : List Nat} {σ σ' : L2.St} : ∀ {vs : List Nat}, (∀ j ∈ js, j ∈ vs) → But js σ σ' → L2.wipe σ' vs = L2.wipe σ vs := by
  intro vs hj hb
  apply List.ext_getElem?
  intro i
  by_cases m : i ∈ vs
  · have at_ : ∀ (σ : L2.St) (vs : List Nat), i ∈ vs → i < σ.length → (L2.wipe σ vs)[i]? = some none := by
      intro σ vs
      induction vs with
      | nil => intro h; simp at h
      | cons v vs ih =>
        intro h hl
        unfold L2.wipe
        by_cases e : v = i
        · subst e; exact List.getElem?_set_self (by rw [L2.wipe_length]; exact hl)
        · rw [List.getElem?_set_ne e]
          exact ih ((List.mem_cons.mp h).resolve_left fun z => e z.symm) hl
    by_cases hl : i < σ.length
    · rw [at_ σ vs m hl, at_ σ' vs m (by rw [hb.1]; exact hl)]
    · rw [List.getElem?_eq_none (by rw [L2.wipe_length, hb.1]; omega), List.getElem?_eq_none (by rw [L2.wipe_length]; omega)]
  · rw [wipe_get_ne m, wipe_get_ne m, hb.2 i fun z => m (hj i z)]
theorem wipe_wipe (σ : L2.St) (vs : List Nat) : L2.wipe (L2.wipe σ vs) vs = L2.wipe σ vs :=
  But.wipe (js := vs) (fun _ h => h) ⟨L2.wipe_length σ vs, fun _ h => wipe_get_ne h⟩
theorem lc_use {vs js : List Nat} {mi : M (List D)} {b : D → Env → Option Env} {t : M Bool} {m : M D} (hj : ∀ j ∈ js, j ∈ vs) {σ : L2.St} {H : Hp} {Q : VK} (h : tE X.K Wx (lcM vs mi b t m) σ H Q) : tLc (tI X.K Wx mi) (tG X.K b js) (tB' X.K WX0 t) (tE X.K WX0 (vl m)) vs σ H Q := by
  obtain ⟨ρ, L, W, rl, p⟩ := h
  refine ⟨ρ, L, W, rl, ?_⟩
  revert p
  show Post X.K Wx σ L W H Q (lcM vs mi b t m ρ) → _
  unfold lcM
  cases mi ρ with
  | stuck => exact id
  | er e ρ' => exact id
  | ok ds ρ1 =>
    intro p J W1 H1 st1 rl1 it Da hD
    have p : Post X.K Wx σ L W H Q (if ds.length ≤ 16777216 then (lcL vs b t m ds (wipeP ρ1 vs)).bd fun es ρ2 => .ok (.ownL (es.map .val)) (restP ρ1 ρ2 vs) else .stuck) := p
    by_cases hlen : ds.length ≤ 16777216
    · rw [if_pos hlen] at p
      obtain ⟨W2, st2, rl2⟩ := rl1.wipe vs
      cases hL : lcL vs b t m ds (wipeP ρ1 vs) with
      | stuck => rw [hL] at p; exact p.elim
      | er e ρ' => exact absurd hL (lcL_ner ds _ _ _)
      | ok es0 ρ0 =>
        rw [hL] at p
        have p : Post X.K Wx σ L W H Q (.ok (.ownL (es0.map .val)) (restP ρ1 ρ0 vs)) := p
        have cg : ∀ (V : List Addr) (G : Hp), hide G (V ++ Da :: L) = hide G (Da :: V ++ L) := fun V G => hide_congr fun a => by
          simp only [List.mem_append, List.mem_cons, List.cons_append]
          constructor
          · rintro (h | h | h); exact .inr (.inl h); exact .inl h; exact .inr (.inr h)
          · rintro (h | h | h); exact .inr (.inl h); exact .inl h; exact .inr (.inr h)
        have st0 : Stp L W1 H1 (Da :: W2) (upd H1 Da (.lst [])) := st2.trans ⟨hide_mono (Ex.new hD) fun a h => by
            simp only [List.cons_append, List.mem_cons] at h
            rcases h with h | h
            · subst h; exact .inr hD
            · exact .inl h, fun a h => by
            rcases List.mem_cons.mp h with h | h
            · subst h; exact .inr hD
            · exact .inl h, fun a h => upd_ne fun z => by subst z; exact rl1.lk a h hD⟩
        let Wd : Nat → Hp → Prop := fun i H' => ∃ ρi Wi xs es es', i ≤ ds.length ∧ Stp L (Da :: W2) (upd H1 Da (.lst [])) (Da :: Wi) H' ∧ Rl X.K (Da :: L) Wi (wipeP ρi vs) (L2.wipe σ vs) H' ∧ H' Da = some (.lst xs) ∧ Reps X.K (hide H' (Wi ++ Da :: L)) xs es ∧ es.length ≤ i ∧
          es ++ es' = es0 ∧ lcL vs b t m (ds.drop i) (wipeP ρi vs) = .ok es' ρ0
        refine ⟨fun i k H' => k = ds.length - i ∧ Wd i H', ⟨ds.length, rfl, ρ1, W2, [], [], es0, Nat.zero_le _, .refl, rl2.lock hD, upd_same, .nil, Nat.le_refl _, rfl, by rw [List.drop_zero]; exact hL⟩, fun i k H2 hw => ?_⟩
        obtain ⟨hk, ρi, Wi, xs, es, es', hi, sti, rli, hxs, hes, hel, hee, heq⟩ := hw
        obtain ⟨h1, h2⟩ := it (Da :: Wi) H2 (st0.trans sti) (fun a ha => rli.alloc a (by
          simp only [List.mem_append, List.mem_cons, List.cons_append] at ha ⊢
          rcases ha with h | h | h
          · exact .inr (.inl h)
          · exact .inl h
          · exact .inr (.inr h)))
        by_cases hl : i < ds.length
        · have hd : ds.drop i = ds[i] :: ds.drop (i + 1) := List.drop_eq_getElem_cons hl
          rw [hd] at heq
          obtain ⟨ρ2, hb, hcase⟩ := lcL_turn heq
          obtain ⟨go, yl⟩ := h2 i ds[i] (List.getElem?_eq_getElem hl)
          refine .inr ⟨go, Wd (i + 1), fun H' h => ⟨ds.length - (i + 1), by omega, rfl, h⟩, fun x H3 hy => ?_⟩
          obtain ⟨ex3, q3⟩ := yl x H3 hy
          have rl3 := rli.ex ex3
          refine ⟨wipeP ρi vs, Da :: L, Wi, ds[i], rl3, by rw [cg]; exact q3, ρ2, hb, fun σ4 W4 st4 rl4 but4 => ?_⟩
          have hw4 : L2.wipe σ4 vs = L2.wipe σ vs := (But.wipe hj but4).trans (wipe_wipe σ vs)
          refine ⟨hw4, ρ2, Da :: L, W4, rl4, ?_⟩
          have stA : Stp (Da :: L) Wi H2 W4 H3 := (rli.stp ex3).trans st4
          rcases hcase with ⟨ρ3, e, ρ4, es'', ht', hm', rfl, hnext⟩ | ⟨ρ3, ht', hnext⟩
          · rw [ht']
            refine fun W5 H5 st5 rl5 => iteT ⟨ρ3, Da :: L, W5, rl5, ?_⟩
            show Post X.K WX0 σ4 (Da :: L) W5 H5 _ ((m ρ3).map Slot.val)
            rw [hm']
            refine Post.val (r := .ok e ρ4) fun y W6 H6 st6 rl6 q6 => ?_
            obtain ⟨W7, st7, rl7⟩ := rl6.wipe vs
            rw [hw4] at rl7
            have stB : Stp (Da :: L) Wi H2 W7 H6 := ((stA.trans st5).trans st6).trans st7
            have hx6 : H6 Da = some (.lst xs) := (stB.lk Da (by simp)).trans hxs
            refine ⟨xs, hx6, ?_, ρ4, W7, xs ++ [y], es ++ [e], es'', hl, (sti.trans stB.unlock).trans ⟨by rw [← cg, ← cg, hide_upd _ (by simp)]; exact Ex.refl _, fun a h => .inl h, fun a h => upd_ne fun z => ?_⟩, rl7.relock, upd_same, ?_, by simp; omega, by rw [← hee]; simp, hnext⟩
            · rw [hes.length, sizeLine_eq]; omega
            · subst z; exact rl1.lk a h hD
            · rw [hide_upd _ (by simp)]
              exact (stB.reps hes).append (.cons (st7.rep q6) .nil)
          · rw [ht']
            refine fun W5 H5 st5 rl5 => iteF ?_
            obtain ⟨W7, st7, rl7⟩ := rl5.wipe vs
            rw [hw4] at rl7
            have stB : Stp (Da :: L) Wi H2 W7 H5 := (stA.trans st5).trans st7
            exact ⟨ρ3, W7, xs, es, es', hl, sti.trans stB.unlock, rl7, (stB.lk Da (by simp)).trans hxs, stB.reps hes, by omega, hee, hnext⟩
        · have hd : ds.drop i = [] := List.drop_eq_nil_of_le (by omega)
          rw [hd] at heq
          have heq : Res.ok ([] : List D) (wipeP ρi vs) = .ok es' ρ0 := heq
          obtain ⟨rfl, rfl⟩ : [] = es' ∧ wipeP ρi vs = ρ0 := by injection heq with a b; exact ⟨a, b⟩
          rw [List.append_nil] at hee
          subst hee
          have exI : Ex (hide H1 (W1 ++ L)) (hide H2 (Wi ++ Da :: L)) := by rw [cg]; exact (st0.trans sti).ex
          obtain ⟨W8, st8, rl8⟩ := Rl.rest rl1 vs exI rli
          have stF : Stp L W H (Da :: W8) H2 := (st1.trans (st0.trans sti)).trans st8.unlock
          refine .inl ⟨h1 i (by omega), p (.ref Da) (Da :: W8) H2 stF ⟨.cons (f := [Da]) (.ownL hxs (relSs_vals ?_)) ?_, ?_, ?_, fun a h => rl8.lk a (by simp [h])⟩⟩
          · rw [← cg]; exact st8.reps hes
          · rw [← cg]; exact rl8.rel
          · exact List.nodup_cons.mpr ⟨rl8.dj Da (by simp), rl8.nd⟩
          · intro a ha z
            rcases List.mem_cons.mp z with z | z
            · subst z; exact rl1.lk a ha hD
            · exact rl8.dj a (by simp [ha]) z
    · rw [if_neg hlen] at p
      exact p.elim
theorem px_lc {elt tg iter : Expr} {ifs : List Expr} {scope : Scope} {pos : Pos} {own : List (Str × Nat)} {mi : M (List D)} {b : D → Env → Option Env} {js : List Nat} {t : M Bool} {m : M D} (hc : X.calm = true) (hN : X.N.Nodup) (hi : PIt X Wx tg iter mi) (ok : BlkOk X.N X.env.scope scope own)
    (hg : ∀ (s : Shared) (H : Hp) (C : Addr) (cl : List (Str × Addr)) (fp : List Addr), PGt (X.blk s H scope (compEnvC scope cl C X.env) fp) tg b js)
    (ht : ∀ (s : Shared) (H : Hp) (C : Addr) (cl : List (Str × Addr)) (fp : List Addr), PTss (X.blk s H scope (compEnvC scope cl C X.env) fp) ifs t)
    (he : ∀ (s : Shared) (H : Hp) (C : Addr) (cl : List (Str × Addr)) (fp : List Addr), PD (X.blk s H scope (compEnvC scope cl C X.env) fp) WX0 elt m)
    (hj : js.all (fun j => decide (j ∈ own.map (·.2))) = true := by decide) (hs : ∀ x, foldedSetIterable iter X.env x = pure x := by intro _; rfl) :
    PX X Wx (.ListComp elt [⟨tg, iter, ifs, 0⟩] scope pos) (lcM (own.map (·.2)) mi b t m) := by
  refine PE_imp (pe_lc (own := own) (g := tG X.K b js) (tt := tB' X.K WX0 t) (te := tE X.K WX0 (vl m)) hc hN hi ok (fun s H C cl fp => hg s H C cl fp) (fun s H C cl fp => ht s H C cl fp) (fun s H C cl fp => he s H C cl fp) hs) fun σ H Q h => ?_
  exact lc_use (fun j hm => of_decide_eq_true (List.all_eq_true.mp hj j hm)) h
end
end P
namespace P
open PySem PySem.Spec PyProof.Rows L2
section
variable {K : PySem.W.Frag} {G : Hp} {v : V}
theorem Rep.int_inv {i : Int} (h : Rep K G v (.int i)) : v = .int i := by cases h; rfl
theorem Rep.str_inv {x : Str} (h : Rep K G v (.str x)) : v = .str x := by cases h; rfl
theorem Rep.non_inv (h : Rep K G v .non) : v = .non := by cases h; rfl
theorem Rep.tup_inv {ds : List D} (h : Rep K G v (.tup ds)) : ∃ a xs, v = .ref a ∧ SqT K G a xs ∧ Reps K G xs ds := by cases h with | tup h r => exact ⟨_, _, rfl, .inl (.inl h), r⟩
theorem Rep.tup_inv2 {ds : List D} (h : Rep K G v (.tup ds)) : ∃ a xs, v = .ref a ∧ G a = some (.tup xs) ∧ Reps K G xs ds := by cases h with | tup h r => exact ⟨_, _, rfl, h, r⟩
theorem Rep.lst_inv {ds : List D} (h : Rep K G v (.lst ds)) : ∃ a xs, v = .ref a ∧ G a = some (.lst xs) ∧ Reps K G xs ds := by cases h with | lst h r => exact ⟨_, _, rfl, h, r⟩
end
theorem newT {K : PySem.W.Frag} {S : List Addr} {H : Hp} {xs : List V} {ds : List D} {p : Addr} (al : ∀ a ∈ S, Al (H a)) (hp : H p = none) (q : Reps K (hide H S) xs ds) : Ex H (upd H p (.tup xs)) ∧ Rep K (hide (upd H p (.tup xs)) S) (.ref p) (.tup ds) := by
  have e := Ex.new (o := HO.tup xs) hp
  refine ⟨e, .tup ?_ (q.mono (hide_mono e fun a h => .inl h))⟩
  rw [hide_out fun z => al p z hp, upd_same]
theorem newLst {K : PySem.W.Frag} {S : List Addr} {H : Hp} {xs : List V} {ds : List D} {p : Addr} (al : ∀ a ∈ S, Al (H a)) (hp : H p = none) (q : Reps K (hide H S) xs ds) : Ex H (upd H p (.lst xs)) ∧ Rep K (hide (upd H p (.lst xs)) S) (.ref p) (.lst ds) := by
  have e := Ex.new (o := HO.lst xs) hp
  refine ⟨e, .lst ?_ (q.mono (hide_mono e fun a h => .inl h))⟩
  rw [hide_out fun z => al p z hp, upd_same]
def addI : D → D → Option D
  | .int i, .int j => some (.int (i + j))
  | _, _ => none
def addS : D → D → Option D
  | .str i, .str j => if i.length + j.length ≤ 1000000 then some (.str (i ++ j)) else none
  | _, _ => none
def addT : D → D → Option D
  | .tup xs, .tup ys => if xs.length + ys.length ≤ 1000000 then some (.tup (xs ++ ys)) else none
  | _, _ => none
def addL : D → D → Option D
  | .lst xs, .lst ys => if xs.length + ys.length ≤ 1000000 then some (.lst (xs ++ ys)) else none
  | _, _ => none
def addD : D → D → Option D
  | .int i, .int j => some (.int (i + j))
  | .str i, .str j => if i.length + j.length ≤ 1000000 then some (.str (i ++ j)) else none
  | .tup xs, .tup ys => if xs.length + ys.length ≤ 1000000 then some (.tup (xs ++ ys)) else none
  | .lst xs, .lst ys => if xs.length + ys.length ≤ 1000000 then some (.lst (xs ++ ys)) else none
  | _, _ => none
section
variable {X : Cx}
theorem big_line {n : Nat} (h : n ≤ 1000000) : n ≤ sizeLine := Nat.le_trans h (by rw [sizeLine_eq]; decide)
theorem opd_I0 {f : Value → Value → Sem Value} {g : Int → Int → Int} (h : OpR X f (rI0 fun i j => .int (g i j))) : OpD X f fun x y => match x, y with
    | .int i, .int j => some (.int (g i j))
    | _, _ => none := ⟨_, h, fun S H x y dx dy d Q al rx ry e k => by
  dsimp only at e
  split at e
  · rw [rx.int_inv, ry.int_inv]
    cases e
    exact ⟨_, _, rfl, rfl, k _ H (Ex.refl H) (.int _)⟩
  · cases e⟩
theorem opd_I {f : Value → Value → Sem Value} {C : Int → Int → Prop} {c : Int → Int → Bool} {g : Int → Int → Int} (h : OpR X f (rI C fun i j => .int (g i j))) (hc : ∀ i j, c i j = true → C i j) : OpD X f fun x y => match x, y with
    | .int i, .int j => if c i j then some (.int (g i j)) else none
    | _, _ => none := ⟨_, h, fun S H x y dx dy d Q al rx ry e k => by
  dsimp only at e
  split at e
  · rw [rx.int_inv, ry.int_inv]
    split at e
    · rename_i hh
      cases e
      exact ⟨_, _, rfl, rfl, hc _ _ hh, k _ H (Ex.refl H) (.int _)⟩
    · cases e
  · cases e⟩
theorem opd_add : OpD X (binaryOp .Add) addD := by
  have hI : OpD X (binaryOp .Add) addI := (opd_I0 op_add).of fun x y => by cases x <;> cases y <;> rfl
  have hS : OpD X (binaryOp .Add) addS := ⟨_, op_add_str, fun S H x y dx dy d Q al rx ry e k => by
    unfold addS at e
    split at e
    · split at e
      · rename_i hh
        cases e
        rw [rx.str_inv, ry.str_inv]
        exact ⟨_, _, rfl, rfl, big_line hh, k _ H (Ex.refl H) (.str _)⟩
      · cases e
    · cases e⟩
  have hT : OpD X (binaryOp .Add) addT := ⟨_, op_catA, fun S H x y dx dy d Q al rx ry e k => by
    unfold addT at e
    split at e
    · split at e
      · rename_i hh
        cases e
        obtain ⟨a, xs, e1, h1, r1⟩ := rx.tup_inv2
        obtain ⟨b, ys, e2, h2, r2⟩ := ry.tup_inv2
        refine ⟨a, b, xs, ys, e1, e2, ex_t hide_ex (.inl (.inl h1)), ex_t hide_ex (.inl (.inl h2)), big_line (by rw [r1.length, r2.length]; exact hh), fun z => ?_, fun _ z => ?_, fun _ _ p hp => ?_⟩
        · subst z
          cases r1
          exact k _ H (Ex.refl H) (.tup h2 r2)
        · subst z
          cases r2
          rw [List.append_nil] at k
          exact k _ H (Ex.refl H) (.tup h1 r1)
        · have z := newT al hp (r1.append r2)
          exact k _ _ z.1 z.2
      · cases e
    · cases e⟩
  have hL : OpD X (binaryOp .Add) addL := ⟨_, op_cat, fun S H x y dx dy d Q al rx ry e k => by
    unfold addL at e
    split at e
    · split at e
      · rename_i hh
        cases e
        obtain ⟨a, xs, e1, h1, r1⟩ := rx.lst_inv
        obtain ⟨b, ys, e2, h2, r2⟩ := ry.lst_inv
        refine ⟨a, b, xs, ys, e1, e2, (hide_some h1).2, (hide_some h2).2, big_line (by rw [r1.length, r2.length]; exact hh), fun p hp => ?_⟩
        have z := newLst al hp (r1.append r2)
        exact k _ _ z.1 z.2
      · cases e
    · cases e⟩
  refine (((hI.or hS).or hT).or hL).of fun x y => ?_
  cases x <;> cases y <;> try rfl
  all_goals (simp only [addD, addI, addS, addT, addL]; split <;> rfl)
@[simp] def subD : D → D → Option D
  | .int i, .int j => some (.int (i - j))
  | _, _ => none
theorem opd_sub : OpD X (binaryOp .Sub) subD := (opd_I0 op_sub).of fun x y => by cases x <;> cases y <;> rfl
def mulOk (i j : Int) : Bool := decide (i.natAbs < 2 ^ 63) || decide (j.natAbs < 2 ^ 63) || decide (i.natAbs.log2 + j.natAbs.log2 < 1000000)
def mulI : D → D → Option D
  | .int i, .int j => if mulOk i j then some (.int (i * j)) else none
  | _, _ => none
def mulL : D → D → Option D
  | .lst xs, .int j => if j < 1000000 ∧ -1000000 < j ∧ xs.length * j.toNat ≤ 1000000 then some (.lst (List.replicate j.toNat xs).flatten) else none
  | _, _ => none
def mulT : D → D → Option D
  | .tup xs, .int j => if xs ≠ [] ∧ 2 ≤ j ∧ j ≤ 1000 ∧ xs.length ≤ 1000 then some (.tup (List.replicate j.toNat xs).flatten) else none
  | _, _ => none
def mulD (x y : D) : Option D := ((mulI x y).or (mulL x y)).or (mulT x y)
theorem Reps.flat {K : PySem.W.Frag} {G : Hp} {xs : List V} {ds : List D} (h : Reps K G xs ds) : ∀ n, Reps K G (List.replicate n xs).flatten (List.replicate n ds).flatten
  | 0 => .nil
  | n + 1 => by rw [List.replicate_succ, List.replicate_succ, List.flatten_cons, List.flatten_cons]; exact h.append (Reps.flat h n)
theorem opd_mul : OpD X (binaryOp .Mult) mulD := by
  have hI : OpD X (binaryOp .Mult) mulI := by
    refine (opd_I (c := mulOk) (op_mul.or op_mulW |> fun h => (show OpR X (binaryOp .Mult) (rI (fun i j => CMul i j ∨ CMulW i j) fun i j => .int (i * j)) from fun pins s σ H x y v u Q I rx ry q => h pins s σ H x y v u Q I rx ry (by
      obtain ⟨i, j, e1, e2, c, q⟩ := q
      exact c.elim (fun c => .inl ⟨i, j, e1, e2, c, q⟩) fun c => .inr ⟨i, j, e1, e2, c, q⟩))) (fun i j h => ?_)).of fun x y => by cases x <;> cases y <;> rfl
    simp only [mulOk, Bool.or_eq_true, decide_eq_true_eq] at h
    rcases h with (h | h) | h
    · exact .inl (.inl ⟨by omega, by omega⟩)
    · exact .inl (.inr ⟨by omega, by omega⟩)
    · exact .inr h
  have hL : OpD X (binaryOp .Mult) mulL := ⟨_, op_rep, fun S H x y dx dy d Q al rx ry e k => by
    unfold mulL at e
    split at e
    · split at e
      · rename_i hh
        cases e
        obtain ⟨a, xs, e1, h1, r1⟩ := rx.lst_inv
        rw [ry.int_inv]
        refine ⟨a, _, xs, e1, rfl, (hide_some h1).2, by omega, by omega, big_line (by rw [r1.length]; exact hh.2.2), fun p hp => ?_⟩
        exact k _ _ (newLst al hp (r1.flat _)).1 (newLst al hp (r1.flat _)).2
      · cases e
    · cases e⟩
  have hT : OpD X (binaryOp .Mult) mulT := ⟨_, op_repT, fun S H x y dx dy d Q al rx ry e k => by
    unfold mulT at e
    split at e
    · split at e
      · rename_i hh
        cases e
        obtain ⟨a, xs, e1, h1, r1⟩ := rx.tup_inv
        rw [ry.int_inv]
        refine ⟨a, _, xs, e1, rfl, ex_t hide_ex h1, fun z => ?_, hh.2.1, hh.2.2.1, by rw [r1.length]; exact hh.2.2.2, fun p hp => ?_⟩
        · subst z; cases r1; exact hh.1 rfl
        · exact k _ _ (newT al hp (r1.flat _)).1 (newT al hp (r1.flat _)).2
      · cases e
    · cases e⟩
  exact ((hI.or hL).or hT).of fun x y => rfl
def fdivD : D → D → Option D
  | .int i, .int j => if 0 < j ∧ j.natAbs < 2 ^ 8000 then some (.int (i / j)) else none
  | _, _ => none
theorem opd_fdiv : OpD X (binaryOp .FloorDiv) fdivD := by
  refine (opd_I (c := fun _ j => decide (0 < j ∧ j.natAbs < 2 ^ 8000)) op_fdivW fun i j h => ?_).of fun x y => ?_
  · have h := of_decide_eq_true h
    exact wide_div h.1 h.2 (by decide) (by decide)
  · cases x <;> cases y <;> try rfl
    simp only [fdivD, decide_eq_true_eq]
def modD : D → D → Option D
  | .int i, .int j => if 0 < j then some (.int (i % j)) else none
  | _, _ => none
theorem opd_mod : OpD X (binaryOp .Mod) modD := by
  refine (opd_I (c := fun _ j => decide (0 < j)) op_mod fun i j h => of_decide_eq_true h).of fun x y => ?_
  cases x <;> cases y <;> try rfl
  simp only [modD, decide_eq_true_eq]
def powD : D → D → Option D
  | .int i, .int n => if 0 ≤ n ∧ (i.natAbs.log2 + 1) * n.toNat ≤ 1000000 then some (.int (i ^ n.toNat)) else none
  | _, _ => none
theorem op_powW : OpR X (binaryOp .Pow) (rI (fun i n => 0 ≤ n ∧ (i.natAbs.log2 + 1) * n.toNat ≤ 1000000) fun i j => .int (i ^ j.toNat)) := opI fun i n _ _ _ _ _ hc q => by
  refine pow_int hc.1 ?_ q
  have b : Builtin.Int.intBits i ≤ i.natAbs.log2 + 1 := by
    unfold Builtin.Int.intBits
    split <;> omega
  have h1 : Builtin.Int.intBits i * n.toNat ≤ (i.natAbs.log2 + 1) * n.toNat := Nat.mul_le_mul_right _ b
  have h2 : ((Builtin.Int.intBits i : Nat) : Int) * n = ((Builtin.Int.intBits i * n.toNat : Nat) : Int) := by
    rw [Int.natCast_mul, Int.toNat_of_nonneg hc.1]
  rw [h2]
  have h3 := hc.2
  omega
theorem opd_pow : OpD X (binaryOp .Pow) powD := by
  refine (opd_I (c := fun i n => decide (0 ≤ n ∧ (i.natAbs.log2 + 1) * n.toNat ≤ 1000000)) op_powW fun i j h => of_decide_eq_true h).of fun x y => ?_
  cases x <;> cases y <;> try rfl
  simp only [powD, decide_eq_true_eq]
@[simp] def negD : D → Option D
  | .int i => some (.int (-i))
  | _ => none
theorem und_neg : UnD X (unaryOp .USub) negD := ⟨_, un_neg, fun S H x dx d Q al rx e k => by
  unfold negD at e
  split at e
  · cases e; rw [rx.int_inv]; exact ⟨_, rfl, k _ H (Ex.refl H) (.int _)⟩
  · cases e⟩
mutual
def toP : D → Option PyData
  | .non => some .none
  | .bl b => some (.bool b)
  | .int i => some (.int i)
  | .str x => some (.str x)
  | .tup ds => (toPs ds).map .tuple
  | .lst ds => (toPs ds).map .list
  | .scr ns => some (.list (ns.map .int))
  | _ => none
def toPs : List D → Option (List PyData)
  | [] => some []
  | d :: ds => match toP d, toPs ds with
    | some p, some ps => some (p :: ps)
    | _, _ => none
end
theorem dpAll_ints {K : PySem.W.Frag} {G : Hp} : ∀ ns : List Int, DpAll K G (ns.map V.int) (ns.map PyData.int)
  | [] => .nil
  | n :: ns => .cons (.int n) (dpAll_ints ns)
mutual
theorem Rep.dp {K : PySem.W.Frag} {G : Hp} : ∀ {v : V} {d : D} {p : PyData}, Rep K G v d → toP d = some p → Dp K G v p
  | _, _, _, .non, h => by simp only [toP, Option.some.injEq] at h; subst h; exact .non
  | _, _, _, .bl b, h => by simp only [toP, Option.some.injEq] at h; subst h; exact .bl b
  | _, _, _, .int b, h => by simp only [toP, Option.some.injEq] at h; subst h; exact .int b
  | _, _, _, .str b, h => by simp only [toP, Option.some.injEq] at h; subst h; exact .str b
  | _, _, _, .tup hq r, h => by
    simp only [toP, Option.map_eq_some_iff] at h
    obtain ⟨ps, h, rfl⟩ := h
    exact .tup (.inl (.inl hq)) (Reps.dp r h)
  | _, _, _, .lst hq r, h => by
    simp only [toP, Option.map_eq_some_iff] at h
    obtain ⟨ps, h, rfl⟩ := h
    exact .lst (.inl (.inl hq)) (Reps.dp r h)
  | _, _, _, .scr hq, h => by simp only [toP, Option.some.injEq] at h; subst h; exact .lst hq (dpAll_ints _)
  | _, _, _, .dK _ _, h => by simp only [toP] at h; cases h
  | _, _, _, .dT _ _, h => by simp only [toP] at h; cases h
  | _, _, _, .ins _ _ _, h => by simp only [toP] at h; cases h
  | _, _, _, .cls _, h => by simp only [toP] at h; cases h
theorem Reps.dp {K : PySem.W.Frag} {G : Hp} : ∀ {vs : List V} {ds : List D} {ps : List PyData}, Reps K G vs ds → toPs ds = some ps → DpAll K G vs ps
  | _, _, _, .nil, h => by simp only [toPs, Option.some.injEq] at h; subst h; exact .nil
  | _, _, _, .cons q r, h => by
    simp only [toPs] at h
    split at h
    · rename_i p ps h1 h2
      cases h
      exact .cons (Rep.dp q h1) (Reps.dp r h2)
    · cases h
end
mutual
theorem dp_ex {K : PySem.W.Frag} {G G' : Hp} (e : Ex G G') : ∀ {v : V} {p : PyData}, Dp K G v p → Dp K G' v p
  | _, _, .non => .non
  | _, _, .bl b => .bl b
  | _, _, .int b => .int b
  | _, _, .str b => .str b
  | _, _, .lst h r => .lst (ex_l e h) (dps_ex e r)
  | _, _, .tup h r => .tup (ex_t e h) (dps_ex e r)
theorem dps_ex {K : PySem.W.Frag} {G G' : Hp} (e : Ex G G') : ∀ {v : List V} {p : List PyData}, DpAll K G v p → DpAll K G' v p
  | _, _, .nil => .nil
  | _, _, .cons h r => .cons (dp_ex e h) (dps_ex e r)
end
def eqS : D → D → Option D
  | .int i, .int j => some (.bl (decide (i = j)))
  | .str i, .str j => some (.bl (decide (i = j)))
  | .bl i, .bl j => some (.bl (decide (i = j)))
  | _, _ => none
def neS : D → D → Option D
  | .int i, .int j => some (.bl (!decide (i = j)))
  | .str i, .str j => some (.bl (!decide (i = j)))
  | .bl i, .bl j => some (.bl (!decide (i = j)))
  | _, _ => none
def eqP (x y : D) : Option D := match toP x, toP y with
  | some p, some q => if SeqAt.shaped p && SeqAt.shaped q then some (.bl (PyData.eqv p q)) else none
  | _, _ => none
def neP (x y : D) : Option D := match toP x, toP y with
  | some p, some q => if SeqAt.shaped p && SeqAt.shaped q then some (.bl (!PyData.eqv p q)) else none
  | _, _ => none
def eqD (x y : D) : Option D := (eqS x y).or (eqP x y)
def neD (x y : D) : Option D := (neS x y).or (neP x y)
theorem dV_int {i j : Int} : decide (V.int i = V.int j) = decide (i = j) := decide_eq_decide.mpr ⟨V.int.inj, fun h => by rw [h]⟩
theorem dV_str {i j : Str} : decide (V.str i = V.str j) = decide (i = j) := decide_eq_decide.mpr ⟨V.str.inj, fun h => by rw [h]⟩
theorem dV_bl {i j : Bool} : decide (V.bl i = V.bl j) = decide (i = j) := decide_eq_decide.mpr ⟨V.bl.inj, fun h => by rw [h]⟩
theorem opd_eq (hu : X.A.units + 64 < cLine) : OpD X (compareOp .Eq) eqD := OpD.or ⟨_, op_eq, fun S H x y dx dy d Q al rx ry e k => by
  unfold eqS at e
  split at e
  · cases e; rw [rx.int_inv, ry.int_inv]; exact ⟨rfl, k _ H (Ex.refl H) (by rw [dV_int]; exact .bl _)⟩
  · cases e; rw [rx.str_inv, ry.str_inv]; exact ⟨rfl, k _ H (Ex.refl H) (by rw [dV_str]; exact .bl _)⟩
  · cases e; rw [rx.bl_inv, ry.bl_inv]; exact ⟨rfl, k _ H (Ex.refl H) (by rw [dV_bl]; exact .bl _)⟩
  · cases e⟩ ⟨_, op_eqD hu, fun S H x y dx dy d Q al rx ry e k => by
  unfold eqP at e
  split at e
  · rename_i p q h1 h2
    split at e
    · rename_i hh
      cases e
      obtain ⟨s1, s2⟩ := Bool.and_eq_true_iff.mp hh
      exact ⟨p, q, dp_ex hide_ex (rx.dp h1), dp_ex hide_ex (ry.dp h2), s1, s2, k _ H (Ex.refl H) (.bl _)⟩
    · cases e
  · cases e⟩
theorem opd_ne (hu : X.A.units + 64 < cLine) : OpD X (compareOp .NotEq) neD := OpD.or ⟨_, op_ne, fun S H x y dx dy d Q al rx ry e k => by
  unfold neS at e
  split at e
  · cases e; rw [rx.int_inv, ry.int_inv]; exact ⟨rfl, k _ H (Ex.refl H) (by rw [dV_int]; exact .bl _)⟩
  · cases e; rw [rx.str_inv, ry.str_inv]; exact ⟨rfl, k _ H (Ex.refl H) (by rw [dV_str]; exact .bl _)⟩
  · cases e; rw [rx.bl_inv, ry.bl_inv]; exact ⟨rfl, k _ H (Ex.refl H) (by rw [dV_bl]; exact .bl _)⟩
  · cases e⟩ ⟨_, op_neD hu, fun S H x y dx dy d Q al rx ry e k => by
  unfold neP at e
  split at e
  · rename_i p q h1 h2
    split at e
    · rename_i hh
      cases e
      obtain ⟨s1, s2⟩ := Bool.and_eq_true_iff.mp hh
      exact ⟨p, q, dp_ex hide_ex (rx.dp h1), dp_ex hide_ex (ry.dp h2), s1, s2, k _ H (Ex.refl H) (.bl _)⟩
    · cases e
  · cases e⟩
theorem opd_B0 {f : Value → Value → Sem Value} {g : Int → Int → Bool} (h : OpR X f (rI0 fun i j => .bl (g i j))) : OpD X f fun x y => match x, y with
    | .int i, .int j => some (.bl (g i j))
    | _, _ => none := ⟨_, h, fun S H x y dx dy d Q al rx ry e k => by
  dsimp only at e
  split at e
  · rw [rx.int_inv, ry.int_inv]
    cases e
    exact ⟨_, _, rfl, rfl, k _ H (Ex.refl H) (.bl _)⟩
  · cases e⟩
@[simp] def ltD : D → D → Option D
  | .int i, .int j => some (.bl (decide (i < j)))
  | _, _ => none
@[simp] def leD : D → D → Option D
  | .int i, .int j => some (.bl (decide (i ≤ j)))
  | _, _ => none
@[simp] def gtD : D → D → Option D
  | .int i, .int j => some (.bl (decide (j < i)))
  | _, _ => none
@[simp] def geD : D → D → Option D
  | .int i, .int j => some (.bl (decide (j ≤ i)))
  | _, _ => none
theorem opd_lt : OpD X (compareOp .Lt) ltD := (opd_B0 op_lt).of fun x y => by cases x <;> cases y <;> rfl
theorem opd_le : OpD X (compareOp .LtE) leD := (opd_B0 op_le).of fun x y => by cases x <;> cases y <;> rfl
theorem opd_gt : OpD X (compareOp .Gt) gtD := (opd_B0 op_gt).of fun x y => by cases x <;> cases y <;> rfl
@[simp] def isNon : D → Bool
  | .non => true
  | _ => false
theorem Rep.non_iff {K : PySem.W.Frag} {G : Hp} {v : V} {d : D} (h : Rep K G v d) : decide (v = .non) = isNon d := by cases h <;> rfl
@[simp] def isD : D → D → Option D
  | x, .non => some (.bl (isNon x))
  | .bl a, .bl b => some (.bl (decide (a = b)))
  | _, _ => none
@[simp] def isNotD : D → D → Option D
  | x, .non => some (.bl (!isNon x))
  | .bl a, .bl b => some (.bl (!decide (a = b)))
  | _, _ => none
theorem opd_is : OpD X (compareOp .Is) isD := ⟨_, op_isN.or op_isBl, fun S H x y dx dy d Q al rx ry e k => by
  unfold isD at e
  split at e
  · cases e
    refine .inl ⟨ry.non_inv, k _ H (Ex.refl H) ?_⟩
    rw [rx.non_iff]; exact .bl _
  · cases e
    exact .inr ⟨_, _, rx.bl_inv, ry.bl_inv, k _ H (Ex.refl H) (.bl _)⟩
  · cases e⟩
theorem opd_isnot : OpD X (compareOp .IsNot) isNotD := ⟨_, op_notN.or op_notBl, fun S H x y dx dy d Q al rx ry e k => by
  unfold isNotD at e
  split at e
  · cases e
    refine .inl ⟨ry.non_inv, k _ H (Ex.refl H) ?_⟩
    rw [rx.non_iff]; exact .bl _
  · cases e
    exact .inr ⟨_, _, rx.bl_inv, ry.bl_inv, k _ H (Ex.refl H) (.bl _)⟩
  · cases e⟩
end
end P
namespace P
open PySem PySem.Spec PyProof.Rows L2
def CallD (X : Cx) (f : Value) (g : List D → Option D) : Prop := ∃ r : List V → Hp → VK → Prop, CallR X f r ∧ ∀ (S : List Addr) (H : Hp) (xs : List V) (ds : List D) (d : D) (Q : VK), (∀ a ∈ S, Al (H a)) → Reps X.K (hide H S) xs ds → g ds = some d →
  (∀ v H', Ex H H' → Rep X.K (hide H' S) v d → Q v H') → r xs H Q
@[simp] def callB (g : List D → Option D) (ma : M (List D)) : M D := fun ρ => (ma ρ).bd fun ds ρ1 => ofO (g ds) ρ1
@[simp] def callN (g : List D → Option (List D)) (ma : M (List D)) : M Slot := fun ρ => (ma ρ).bd fun ds ρ1 => ofO ((g ds).map fun es => .ownL (es.map .val)) ρ1
section
variable {X : Cx} {Wx : WX} {x : Str} {p pos : Pos} {e : Expr} {es : List Expr} {ma : M (List D)}
theorem tCB_use {K : PySem.W.Frag} {σ : L2.St} {H : Hp} {Q : VK} {r : List V → Hp → VK → Prop} {g : List D → Option D} (h2 : ∀ (S : List Addr) (H : Hp) (xs : List V) (ds : List D) (d : D) (Q : VK), (∀ a ∈ S, Al (H a)) → Reps K (hide H S) xs ds → g ds = some d →
    (∀ v H', Ex H H' → Rep K (hide H' S) v d → Q v H') → r xs H Q) (h : tE K Wx (vl (callB g ma)) σ H Q) : tCB r (tA K Wx ma) σ H Q := by
  obtain ⟨ρ, L, W, rl, p⟩ := h
  simp only [vl, callB, map_bd] at p
  refine bd_A (T := Post K Wx σ L W H Q) rl p fun vs ds ρ1 W1 H1 st1 rl1 q1 p => ?_
  obtain ⟨d, e, p⟩ := Post.ofO p
  exact h2 (W1 ++ L) H1 vs ds d Q rl1.alloc q1 e fun v H' ex q => (p.step st1).here rl1 ex q
theorem px_callB {id : String} {g : List D → Option D} (hc : CallD X (.builtin id) g) (hm : X.mg x = none) (ha : PAs X Wx (e :: es) ma) (hv : bootBuiltins x = some (.builtin id) := by decide +kernel) (hg : Gl X x := by rfl) (hn : x ≠ "__name__" := by decide) (hdb : (x == ("__debug__" : Str)) = false := by decide)
    (he : starEach (e :: es) X.env = (false, eval e X.env) :: starEach es X.env := by rfl) (hpl : (backTo pos (starEach es X.env)).any (·.1) = false := by rfl) : PD X Wx (.Call (.Name x p) (e :: es) [] pos) (callB g ma) := by
  obtain ⟨r, h1, h2⟩ := hc
  exact PE_imp (pe_callB h1 hg hm hv ha hn hdb he hpl) fun σ H Q h => tCB_use h2 h
theorem px_callTy {id : String} {g : List D → Option D} (hc : CallD X (.type id) g) (hm : X.mg x = none) (ha : PAs X Wx (e :: es) ma) (hv : bootBuiltins x = some (.type id) := by decide +kernel) (hg : Gl X x := by rfl) (hn : x ≠ "__name__" := by decide) (hdb : (x == ("__debug__" : Str)) = false := by decide)
    (he : starEach (e :: es) X.env = (false, eval e X.env) :: starEach es X.env := by rfl) (hpl : (backTo pos (starEach es X.env)).any (·.1) = false := by rfl) : PD X Wx (.Call (.Name x p) (e :: es) [] pos) (callB g ma) := by
  obtain ⟨r, h1, h2⟩ := hc
  exact PE_imp (pe_callTy h1 hg hm hv ha hn hdb he hpl) fun σ H Q h => tCB_use h2 h
end
def lenD : List D → Option D
  | [.tup ds] => some (.int ds.length)
  | [.lst ds] => some (.int ds.length)
  | [.scr ns] => some (.int ns.length)
  | [.str x] => if x.length ≤ 1000000 then some (.int x.length) else none
  | _ => none
def absD : List D → Option D
  | [.int i] => some (.int (if i < 0 then -i else i))
  | _ => none
def max2D : List D → Option D
  | [.int i, .int j] => some (.int (if j > i then j else i))
  | _ => none
def min2D : List D → Option D
  | [.int i, .int j] => some (.int (if j < i then j else i))
  | _ => none
def intD : List D → Option D
  | [.int i] => some (.int i)
  | [.bl b] => some (.int (if b then 1 else 0))
  | _ => none
def strID : List D → Option D
  | [.int i] => if i.natAbs.log2 < 1920 then some (.str (toString i)) else none
  | _ => none
def asInts : List D → Option (List Int)
  | [] => some []
  | .int i :: r => (asInts r).map (i :: ·)
  | _ :: _ => none
def asBls : List D → Option (List Bool)
  | [] => some []
  | .bl i :: r => (asBls r).map (i :: ·)
  | _ :: _ => none
def sumD : List D → Option D
  | [.lst ds] => (asInts ds).map fun ns => .int ns.sum
  | _ => none
def allD : List D → Option D
  | [.lst ds] => (asBls ds).map fun bs => .bl (bs.all id)
  | _ => none
def anyD : List D → Option D
  | [.lst ds] => (asBls ds).map fun bs => .bl (bs.any id)
  | _ => none
def tupleD : List D → Option D
  | [.tup ds] => some (.tup ds)
  | [.lst ds] => some (.tup ds)
  | _ => none
def listD : List D → Option (List D)
  | [.tup ds] => some ds
  | [.lst ds] => some ds
  | _ => none
theorem asBls_eq : ∀ {ds : List D} {ns : List Bool}, asBls ds = some ns → ds = ns.map .bl
  | [], _, h => by cases h; rfl
  | .bl i :: r, _, h => by
    simp only [asBls, Option.map_eq_some_iff] at h
    obtain ⟨ns, h, rfl⟩ := h
    rw [asBls_eq h]; rfl
  | .non :: _, _, h => by cases h
  | .int _ :: _, _, h => by cases h
  | .str _ :: _, _, h => by cases h
  | .tup _ :: _, _, h => by cases h
  | .lst _ :: _, _, h => by cases h
  | .dct _ _ _ _ :: _, _, h => by cases h
  | .ins _ _ _ :: _, _, h => by cases h
  | .cls _ :: _, _, h => by cases h
  | .scr _ :: _, _, h => by cases h
theorem asInts_map : ∀ ns : List Int, asInts (ns.map .int) = some ns
  | [] => rfl
  | n :: r => by simp only [List.map_cons, asInts, asInts_map r, Option.map_some]
theorem asBls_map : ∀ ns : List Bool, asBls (ns.map .bl) = some ns
  | [] => rfl
  | n :: r => by simp only [List.map_cons, asBls, asBls_map r, Option.map_some]
theorem Reps.bls {K : PySem.W.Frag} {G : Hp} : ∀ {xs : List V} {ns : List Bool}, Reps K G xs (ns.map D.bl) → xs = ns.map V.bl
  | _, [], .nil => rfl
  | _, _ :: _, .cons h r => by cases h; rw [Reps.bls r]; rfl
section
variable {X : Cx}
theorem Reps.one {K : PySem.W.Frag} {G : Hp} {xs : List V} {d : D} (h : Reps K G xs [d]) : ∃ x, xs = [x] ∧ Rep K G x d := by
  cases h with | cons h r => cases r; exact ⟨_, rfl, h⟩
theorem Reps.pair {K : PySem.W.Frag} {G : Hp} {xs : List V} {d e : D} (h : Reps K G xs [d, e]) : ∃ x y, xs = [x, y] ∧ Rep K G x d ∧ Rep K G y e := by
  cases h with | cons h r => cases r with | cons h2 r => cases r; exact ⟨_, _, rfl, h, h2⟩
theorem cd_len : CallD X (.builtin "len") lenD := ⟨_, call_len, fun S H xs ds d Q al r e k => by
  unfold lenD at e
  split at e
  · cases e
    obtain ⟨x, rfl, q⟩ := r.one
    obtain ⟨a, ys, rfl, h, q⟩ := q.tup_inv
    exact ⟨_, ys.length, rfl, .inr ⟨_, ex_t hide_ex h, rfl⟩, k _ H (Ex.refl H) (by rw [q.length]; exact .int _)⟩
  · cases e
    obtain ⟨x, rfl, q⟩ := r.one
    obtain ⟨a, ys, rfl, h, q⟩ := q.lst_inv
    exact ⟨_, ys.length, rfl, .inl ⟨_, SqL.of (hide_some h).2, rfl⟩, k _ H (Ex.refl H) (by rw [q.length]; exact .int _)⟩
  · cases e
    obtain ⟨x, rfl, q⟩ := r.one
    cases q with
    | scr h => exact ⟨_, _, rfl, .inl ⟨_, ex_l hide_ex h, rfl⟩, k _ H (Ex.refl H) (by rw [List.length_map]; exact .int _)⟩
  · split at e
    · rename_i hh
      cases e
      obtain ⟨x, rfl, q⟩ := r.one
      rw [q.str_inv]
      exact ⟨_, _, rfl, ⟨big_line hh, rfl⟩, k _ H (Ex.refl H) (.int _)⟩
    · cases e
  · cases e⟩
theorem cd_abs : CallD X (.builtin "abs") absD := ⟨_, call_abs, fun S H xs ds d Q al r e k => by
  unfold absD at e
  split at e
  · cases e
    obtain ⟨x, rfl, q⟩ := r.one
    rw [q.int_inv]
    exact ⟨_, rfl, k _ H (Ex.refl H) (.int _)⟩
  · cases e⟩
theorem cd_max2 (hc : X.calm = true) : CallD X (.builtin "max") max2D := ⟨_, call_max2 hc, fun S H xs ds d Q al r e k => by
  unfold max2D at e
  split at e
  · cases e
    obtain ⟨x, y, rfl, q1, q2⟩ := r.pair
    rw [q1.int_inv, q2.int_inv]
    exact ⟨_, _, rfl, k _ H (Ex.refl H) (.int _)⟩
  · cases e⟩
theorem cd_min2 (hc : X.calm = true) : CallD X (.builtin "min") min2D := ⟨_, call_min2 hc, fun S H xs ds d Q al r e k => by
  unfold min2D at e
  split at e
  · cases e
    obtain ⟨x, y, rfl, q1, q2⟩ := r.pair
    rw [q1.int_inv, q2.int_inv]
    exact ⟨_, _, rfl, k _ H (Ex.refl H) (.int _)⟩
  · cases e⟩
theorem cd_str : CallD X (.type "str") strID := ⟨_, call_str_int, fun S H xs ds d Q al r e k => by
  unfold strID at e
  split at e
  · split at e
    · rename_i hh
      cases e
      obtain ⟨x, rfl, q⟩ := r.one
      rw [q.int_inv]
      exact ⟨_, rfl, hh, k _ H (Ex.refl H) (.str _)⟩
    · cases e
  · cases e⟩
theorem cd_all (hc : X.calm = true) : CallD X (.builtin "all") allD := ⟨_, cr_all hc, fun S H xs ds d Q al r e k => by
  unfold allD at e
  split at e
  · rename_i es
    obtain ⟨x, rfl, q⟩ := r.one
    obtain ⟨a, ys, rfl, h, q⟩ := q.lst_inv
    simp only [Option.map_eq_some_iff] at e
    obtain ⟨ns, e, rfl⟩ := e
    have := asBls_eq e
    subst this
    rw [q.bls] at h
    exact ⟨a, ns, rfl, SqL.of (hide_some h).2, k _ H (Ex.refl H) (.bl _)⟩
  · cases e⟩
theorem cd_tuple : CallD X (.type "tuple") tupleD := ⟨_, call_tuple_of, fun S H xs ds d Q al r e k => by
  unfold tupleD at e
  split at e
  · cases e
    obtain ⟨x, rfl, q⟩ := r.one
    obtain ⟨a, ys, rfl, h, q⟩ := q.tup_inv2
    exact ⟨a, ys, rfl, .inr ⟨ex_t hide_ex (.inl (.inl h)), k _ H (Ex.refl H) (.tup h q)⟩⟩
  · cases e
    obtain ⟨x, rfl, q⟩ := r.one
    obtain ⟨a, ys, rfl, h, q⟩ := q.lst_inv
    exact ⟨a, ys, rfl, .inl ⟨SqL.of (hide_some h).2, fun p hp => k _ _ (newT al hp q).1 (newT al hp q).2⟩⟩
  · cases e⟩
end
def tyN : D → String
  | .non => "NoneType"
  | .bl _ => "bool"
  | .int _ => "int"
  | .str _ => "str"
  | .tup _ => "tuple"
  | .lst _ => "list"
  | .scr _ => "list"
  | .dct _ _ _ _ => "dict"
  | .ins _ _ _ => ""
  | .cls _ => "type"
def subT : String → String → Bool
  | "bool", "int" => true
  | a, b => a == b
def isiT (T : String) : D → Option Bool
  | .ins _ _ _ => some false
  | .cls _ => none
  | d => some (subT (tyN d) T)
def isiC (c : Str) : D → Option Bool
  | .ins c' _ _ => if c' = c then some true else none
  | .cls _ => none
  | _ => some false
theorem Rep.ty {K : PySem.W.Frag} {G H : Hp} {v : V} {d : D} (e : Ex G H) (h : Rep K G v d) (hi : ∀ c ns vs, d ≠ .ins c ns vs) (hj : ∀ c, d ≠ .cls c) : TyX K H v (.type (tyN d)) := by
  cases h with
  | non => exact .base .non
  | bl b => exact .base (.bl b)
  | int b => exact .base (.int b)
  | str b => exact .base (.str b)
  | tup h r => exact .base (.tup (e _ _ h))
  | lst h r => exact .base (.lst (e _ _ h))
  | scr h =>
    rcases h with (h | ⟨o, h⟩) | ⟨o, its, n, hk, hc, _⟩
    · exact .base (.lst (e _ _ h))
    · exact .base (.frz (e _ _ h))
    · exact .kList hk hc
  | @dK a l kvs vs h r =>
    cases l with
    | false => exact .base (.dK (e _ _ h))
    | true => obtain ⟨o, h⟩ := h; exact .fDict (e _ _ h)
  | dT h r => exact .base (.dT (e _ _ h))
  | ins h r hc => exact absurd rfl (hi _ _ _)
  | cls c => exact absurd rfl (hj _)
theorem Rep.tyI {K : PySem.W.Frag} {G H : Hp} {v : V} {c : Str} {ns : List Str} {vs : List D} (e : Ex G H) (h : Rep K G v (.ins c ns vs)) : ClsF K c ∧ TyX K H v (.ref (He.ga K c)) := by
  generalize hd : D.ins c ns vs = d at h
  cases h with
  | ins h r F => injection hd with h1 h2 h3; subst h1; exact ⟨F, .base (.ins (e _ _ h) F.cl F.ha F.hn F.htk F.hm)⟩
  | _ => cases hd
def IsiOk (K : PySem.W.Frag) (u : Value) (g : D → Option Bool) : Prop := ∀ (G H : Hp) (v : V) (d : D) (b : Bool), Ex G H → Rep K G v d → g d = some b → ∃ t, TyX K H v t ∧ PySem.W.kitOne K t u = some b
@[simp] def isiM (g : D → Option Bool) (ma : M D) : M D := fun ρ => (ma ρ).bd fun d ρ1 => ofO ((g d).map .bl) ρ1
section
variable {X : Cx} {Wx : WX}
theorem isi_ty {K : PySem.W.Frag} {T : String} (hT : T ∈ (["int", "bool", "str", "tuple", "list", "dict"] : List String)) : IsiOk K (.type T) (isiT T) := fun G H v d b e r h => by
  by_cases hj : ∃ c, d = .cls c
  · obtain ⟨c, rfl⟩ := hj; cases h
  have hj : ∀ c, d ≠ .cls c := fun c z => hj ⟨c, z⟩
  by_cases hi : ∀ c ns vs, d ≠ .ins c ns vs
  · refine ⟨_, r.ty e hi hj, ?_⟩
    have h : b = subT (tyN d) T := by
      cases d with
      | ins c ns vs => exact absurd rfl (hi _ _ _)
      | cls c => exact absurd rfl (hj _)
      | _ => exact (Option.some.inj h).symm
    subst h
    refine kit_ty ?_
    have : tyN d ∈ (["NoneType", "bool", "int", "str", "tuple", "list", "dict"] : List String) := by
      cases d with
      | ins c ns vs => exact absurd rfl (hi _ _ _)
      | cls c => exact absurd rfl (hj _)
      | _ => simp [tyN]
    generalize tyN d = n at this
    have all : ∀ n ∈ (["NoneType", "bool", "int", "str", "tuple", "list", "dict"] : List String), ∀ T ∈ (["int", "bool", "str", "tuple", "list", "dict"] : List String), kitB n T = some (subT n T) := by decide +kernel
    exact all n this T hT
  · cases d with
    | ins c ns vs =>
      cases h
      obtain ⟨F, z⟩ := r.tyI e
      exact ⟨_, z, F.noB T hT⟩
    | cls c => exact absurd rfl (hj _)
    | _ => exact absurd (fun _ _ _ z => by cases z) hi
theorem isi_cls {K : PySem.W.Frag} {c : Str} (F : ClsF K c) : IsiOk K (.ref (He.ga K c)) (isiC c) := fun G H v d b e r h => by
  by_cases hj : ∃ c, d = .cls c
  · obtain ⟨c, rfl⟩ := hj; cases h
  have hj : ∀ c, d ≠ .cls c := fun c z => hj ⟨c, z⟩
  by_cases hi : ∀ c ns vs, d ≠ .ins c ns vs
  · refine ⟨_, r.ty e hi hj, ?_⟩
    have h : b = false := by
      cases d with
      | ins c ns vs => exact absurd rfl (hi _ _ _)
      | cls c => exact absurd rfl (hj _)
      | _ => exact (Option.some.inj h).symm
    subst h
    refine F.noT _ ?_
    cases d with
    | ins c ns vs => exact absurd rfl (hi _ _ _)
    | cls c => exact absurd rfl (hj _)
    | _ => simp [tyN]
  · cases d with
    | ins c' ns vs =>
      simp only [isiC] at h
      split at h
      · rename_i hc
        cases h
        subst hc
        exact ⟨_, (r.tyI e).2, F.self⟩
      · cases h
    | cls c => exact absurd rfl (hj _)
    | _ => exact absurd (fun _ _ _ z => by cases z) hi
theorem px_isi {x y : Str} {u : Value} {c : V} {p p2 pos : Pos} {e : Expr} {ma : M D} {g : D → Option Bool} (hk : ClsV c u) (hg : IsiOk X.K u g) (hm : X.mg x = none) (ha : PD X Wx e ma) (hc : PE X (.Name y p2) (tC c)) (hv : bootBuiltins x = some (.builtin "isinstance") := by decide +kernel) (hgl : Gl X x := by rfl)
    (hn : x ≠ "__name__" := by decide) (hdb : (x == ("__debug__" : Str)) = false := by decide) (h1 : starEach [e, .Name y p2] X.env = (false, eval e X.env) :: starEach [.Name y p2] X.env := by rfl) (h2 : starEach [.Name y p2] X.env = (false, eval (.Name y p2) X.env) :: starEach [] X.env := by rfl)
    (hpl : (backTo pos (starEach [.Name y p2] X.env)).any (·.1) = false := by rfl) : PD X Wx (.Call (.Name x p) [e, .Name y p2] [] pos) (isiM g ma) := by
  have hA : PA X [e, .Name y p2] (tCons (tE X.K Wx (vl ma)) (tCons (tC c) tNil)) := pa_cons ha (pa_cons hc pa_nil h2) h1
  refine PE_imp (pe_callB call_isi hgl hm hv hA hn hdb h1 hpl) fun σ H Q h => ?_
  obtain ⟨ρ, L, W, rl, p⟩ := h
  simp only [vl, isiM, map_bd] at p
  refine bd_D (T := Post X.K Wx σ L W H Q) rl p fun x d ρ1 W1 H1 st1 rl1 q1 p => ?_
  obtain ⟨d', e', p⟩ := Post.ofO p
  simp only [Option.map_eq_some_iff] at e'
  obtain ⟨b, e', rfl⟩ := e'
  obtain ⟨t, ht, hb⟩ := hg _ H1 _ _ _ hide_ex q1 e'
  exact ⟨x, c, t, u, b, rfl, hk, ht, hb, (p.step st1).here rl1 (Ex.refl _) (.bl b)⟩
theorem px_isiT {x y : Str} {T : String} {p p2 pos : Pos} {e : Expr} {ma : M D} (hm : X.mg x = none) (hmy : X.mg y = none) (ha : PD X Wx e ma) (hT : T ∈ (["int", "bool", "str", "tuple", "list", "dict"] : List String) := by decide) (hvy : bootBuiltins y = some (.type T) := by decide +kernel) (hgy : Gl X y := by rfl)
    (hny : y ≠ "__name__" := by decide) (hdy : (y == ("__debug__" : Str)) = false := by decide) (hv : bootBuiltins x = some (.builtin "isinstance") := by decide +kernel) (hgl : Gl X x := by rfl)
    (hn : x ≠ "__name__" := by decide) (hdb : (x == ("__debug__" : Str)) = false := by decide) (h1 : starEach [e, .Name y p2] X.env = (false, eval e X.env) :: starEach [.Name y p2] X.env := by rfl) (h2 : starEach [.Name y p2] X.env = (false, eval (.Name y p2) X.env) :: starEach [] X.env := by rfl)
    (hpl : (backTo pos (starEach [.Name y p2] X.env)).any (·.1) = false := by rfl) : PD X Wx (.Call (.Name x p) [e, .Name y p2] [] pos) (isiM (isiT T) ma) :=
  px_isi (c := .ty T) (u := .type T) (.ty T) (isi_ty hT) hm ha (pe_bltn hgy hmy hvy rfl hny hdy) hv hgl hn hdb h1 h2 hpl
theorem px_isiC {x c : Str} {p p2 pos : Pos} {e : Expr} {ma : M D} (F : ClsF X.K c) (gC : X.mg c = some (.ref (He.ga X.K c))) (hm : X.mg x = none) (ha : PD X Wx e ma) (hgy : Gl X c := by rfl) (hdy : (c == ("__debug__" : Str)) = false := by decide)
    (hv : bootBuiltins x = some (.builtin "isinstance") := by decide +kernel) (hgl : Gl X x := by rfl)
    (hn : x ≠ "__name__" := by decide) (hdb : (x == ("__debug__" : Str)) = false := by decide) (h1 : starEach [e, .Name c p2] X.env = (false, eval e X.env) :: starEach [.Name c p2] X.env := by rfl) (h2 : starEach [.Name c p2] X.env = (false, eval (.Name c p2) X.env) :: starEach [] X.env := by rfl)
    (hpl : (backTo pos (starEach [.Name c p2] X.env)).any (·.1) = false := by rfl) : PD X Wx (.Call (.Name x p) [e, .Name c p2] [] pos) (isiM (isiC c) ma) :=
  px_isi (c := .ref (He.ga X.K c)) (u := .ref (He.ga X.K c)) (.own _) (isi_cls F) hm ha (pe_glob hgy gC rfl hdy) hv hgl hn hdb h1 h2 hpl
end
end P
namespace P
open PySem PySem.Spec PyProof.Rows L2
def ixD : D → D → Option D
  | .tup ds, .int i => atI ds i
  | .lst ds, .int i => atI ds i
  | .scr ns, .int i => (atI ns i).map .int
  | .str x, .int i => if x.length ≤ 1000000 then (atI x.cps.toList i).map fun c => .str ⟨#[c]⟩ else none
  | _, _ => none
theorem Reps.atI {K : PySem.W.Frag} {G : Hp} {xs : List V} {ds : List D} {i : Int} {d : D} (h : Reps K G xs ds) (e : L2.atI ds i = some d) : ∃ x, L2.atI xs i = some x ∧ Rep K G x d := by
  unfold L2.atI at e ⊢
  rw [h.length]
  cases q : ixN ds.length i with
  | none => rw [q] at e; cases e
  | some j =>
    rw [q] at e
    obtain ⟨x, h1, h2⟩ := h.get (i := j) (by simpa using e)
    exact ⟨x, by simpa using h1, h2⟩
theorem atI_map {α β : Type} (f : α → β) (xs : List α) (i : Int) : L2.atI (xs.map f) i = (L2.atI xs i).map f := by
  unfold L2.atI
  rw [List.length_map]
  cases ixN xs.length i with
  | none => rfl
  | some j => simp
section
variable {X : Cx} {Wx : WX}
def IxDd (X : Cx) (g : D → D → Option D) : Prop := ∃ r : R2, IxR X r ∧ OpOk X.K r g
theorem ixd_seq : IxDd X ixD := ⟨_, ix_seq, fun S H x y dx dy d Q al rx ry e k => by
  unfold ixD at e
  split at e
  · obtain ⟨a, xs, rfl, h, q⟩ := rx.tup_inv
    obtain ⟨v, hv, qv⟩ := q.atI e
    rw [ry.int_inv]
    exact .inr (.inl ⟨a, xs, _, v, rfl, rfl, ex_t hide_ex h, hv, k _ H (Ex.refl H) qv⟩)
  · obtain ⟨a, xs, rfl, h, q⟩ := rx.lst_inv
    obtain ⟨v, hv, qv⟩ := q.atI e
    rw [ry.int_inv]
    exact .inl ⟨a, xs, _, v, rfl, rfl, SqL.of (hide_some h).2, hv, k _ H (Ex.refl H) qv⟩
  · cases rx with
    | scr h =>
      simp only [Option.map_eq_some_iff] at e
      obtain ⟨n, hn, rfl⟩ := e
      rw [ry.int_inv]
      exact .inl ⟨_, _, _, .int n, rfl, rfl, ex_l hide_ex h, by rw [atI_map, hn]; rfl, k _ H (Ex.refl H) (.int _)⟩
  · split at e
    · rename_i hh
      simp only [Option.map_eq_some_iff] at e
      obtain ⟨c, hc, rfl⟩ := e
      rw [rx.str_inv, ry.int_inv]
      exact .inr (.inr ⟨_, _, c, rfl, rfl, big_line hh, hc, k _ H (Ex.refl H) (.str _)⟩)
    · cases e
  · cases e⟩
theorem px_ix {a b : Expr} {pos : Pos} {ma mb : M D} {g : D → D → Option D} (ho : IxDd X g) (ha : PD X Wx a ma) (hb : PD X Wx b mb) (hs : PlainIx b := by exact fun _ _ => rfl) : PD X Wx (.Subscript a b pos) (bop g ma mb) := by
  obtain ⟨r, h1, h2⟩ := ho
  exact PE_imp (pe_ix h1 ha hb hs) fun σ H Q h => two h2 h
@[simp] def noP : M (Option Int) := fun ρ => .ok none ρ
@[simp] def someP (m : M D) : M (Option Int) := fun ρ => (m ρ).bd fun d ρ1 => match d with
  | .int i => .ok (some i) ρ1
  | _ => .stuck
def cutD (ds : List D) (lo hi : Option Int) : List D := (ds.drop (HT.sIx ds.length 0 lo)).take (HT.sIx ds.length ds.length hi - HT.sIx ds.length 0 lo)
def sliceD : D → Option Int → Option Int → Option D
  | .tup ds, lo, hi => some (.tup (cutD ds lo hi))
  | .lst ds, lo, hi => some (.lst (cutD ds lo hi))
  | _, _, _ => none
@[simp] def sliceM (m : M D) (ml mh : M (Option Int)) : M D := fun ρ => (m ρ).bd fun d ρ1 => (ml ρ1).bd fun lo ρ2 => (mh ρ2).bd fun hi ρ3 => ofO (sliceD d lo hi) ρ3
@[simp] def tupM (ma : M (List D)) : M D := fun ρ => (ma ρ).bd fun ds ρ1 => if ds.length ≤ 1000000 then .ok (.tup ds) ρ1 else .stuck
@[simp] def lstM (ma : M (List D)) : M Slot := fun ρ => (ma ρ).bd fun ds ρ1 => if ds.length ≤ 1000000 then .ok (.ownL (ds.map .val)) ρ1 else .stuck
theorem px_tup {es : List Expr} {k : Nat} {pos : Pos} {ma : M (List D)} (h : PAs X Wx es ma) : PD X Wx (.Tuple es k pos) (tupM ma) := by
  refine PE_imp (pe_tup h) fun σ H Q h => ?_
  obtain ⟨ρ, L, W, rl, p⟩ := h
  simp only [vl, tupM, map_bd] at p
  refine bd_A (T := Post X.K Wx σ L W H Q) rl p fun vs ds ρ1 W1 H1 st1 rl1 q1 p => ?_
  by_cases c : ds.length ≤ 1000000
  · rw [if_pos c] at p
    exact ⟨big_line (by rw [q1.length]; exact c), fun pp hp => (Post.step (r := .ok (.val (.tup ds)) ρ1) st1 p).here rl1 (newT rl1.alloc hp q1).1 (newT rl1.alloc hp q1).2⟩
  · rw [if_neg c] at p
    exact p.elim
theorem px_lst {es : List Expr} {pos : Pos} {ma : M (List D)} (h : PAs X Wx es ma) : PX X Wx (.List es pos) (lstM ma) := by
  refine PE_imp (pe_lst h) fun σ H Q h => ?_
  obtain ⟨ρ, L, W, rl, p⟩ := h
  refine bd_A (T := Post X.K Wx σ L W H Q) rl p fun vs ds ρ1 W1 H1 st1 rl1 q1 p => ?_
  by_cases c : ds.length ≤ 1000000
  · rw [if_pos c] at p
    refine ⟨big_line (by rw [q1.length]; exact c), fun pp hp => ?_⟩
    exact (Post.step (r := .ok (.ownL (ds.map .val)) ρ1) st1 p).newL rl1 (Ex.new hp) hp upd_same (q1.mono (hide_mono (Ex.new hp) fun a h => by
      simp only [List.cons_append, List.mem_cons] at h
      rcases h with h | h
      · subst h; exact .inr hp
      · exact .inl h))
  · rw [if_neg c] at p
    exact p.elim
theorem PI_imp {tg iter : Expr} {t t' : TI} (h : PI X tg iter t) (i : ∀ σ H R, t' σ H R → t σ H R) : PI X tg iter t' := ⟨fun pins s σ H Q I q => h.run pins s σ H Q I (i σ H Q q)⟩
theorem bd_I {K : PySem.W.Frag} {L W : List Addr} {ρ : Env} {σ : L2.St} {H : Hp} {R : It → Hp → Prop} {ma : M (List D)} {k : List D → Option (List D)} {R' : List V → Hp → Prop} (r : Rl K L W ρ σ H) (p : PostI K Wx σ L W H R ((ma ρ).bd fun ds ρ1 => ofO (k ds) ρ1))
    (hR : ∀ xs ds es ρ1 W1 H1, Rl K L W1 ρ1 σ H1 → Reps K (hide H1 (W1 ++ L)) xs ds → k ds = some es → (∀ J, ItOk K L W1 H1 J es → R J H1) → R' xs H1) : tA K Wx ma σ H R' := by
  refine bd_A (T := PostI K Wx σ L W H R) r p fun xs ds ρ1 W1 H1 st1 rl1 q1 p => ?_
  cases e : k ds with
  | none => rw [e] at p; exact p.elim
  | some es => rw [e] at p; exact hR xs ds es ρ1 W1 H1 rl1 q1 e fun J it => p J W1 H1 st1 rl1 it
theorem bd_I1 {K : PySem.W.Frag} {L W : List Addr} {ρ : Env} {σ : L2.St} {H : Hp} {R : It → Hp → Prop} {ma : M D} {k : D → Option (List D)} {R' : V → Hp → Prop} (r : Rl K L W ρ σ H) (p : PostI K Wx σ L W H R ((ma ρ).bd fun ds ρ1 => ofO (k ds) ρ1))
    (hR : ∀ x d es ρ1 W1 H1, Rl K L W1 ρ1 σ H1 → Rep K (hide H1 (W1 ++ L)) x d → k d = some es → (∀ J, ItOk K L W1 H1 J es → R J H1) → R' x H1) : tE K Wx (vl ma) σ H R' := by
  refine bd_D (T := PostI K Wx σ L W H R) r p fun xs ds ρ1 W1 H1 st1 rl1 q1 p => ?_
  cases e : k ds with
  | none => rw [e] at p; exact p.elim
  | some es => rw [e] at p; exact hR xs ds es ρ1 W1 H1 rl1 q1 e fun J it => p J W1 H1 st1 rl1 it
def itL : D → Option (List D)
  | .lst ds => some ds
  | .scr ns => some (ns.map .int)
  | _ => none
def itT : D → Option (List D)
  | .tup ds => some ds
  | _ => none
theorem ok_list {K : PySem.W.Frag} {L W : List Addr} {H : Hp} {a : Addr} {xs : List V} {ds : List D} (h : SqL K (hide H (W ++ L)) a xs) (q : Reps K (hide H (W ++ L)) xs ds) : ItOk K L W H (Itl K a) ds := fun W1 H1 st al => by
  have h1 := ex_l (st.ex.trans hide_ex) h
  refine ⟨fun i hi => ⟨xs, h1, by rw [q.length]; exact hi⟩, fun i d hd => ?_⟩
  obtain ⟨x, hx, qx⟩ := q.get hd
  exact ⟨⟨xs, x, h1, hx⟩, fun y H' ⟨e, hy⟩ => by subst e; cases (hy xs h1).symm.trans hx; exact ⟨Ex.refl _, st.rep qx⟩⟩
theorem ok_tup {K : PySem.W.Frag} {L W : List Addr} {H : Hp} {a : Addr} {xs : List V} {ds : List D} (h : SqT K (hide H (W ++ L)) a xs) (q : Reps K (hide H (W ++ L)) xs ds) : ItOk K L W H (Itt K a) ds := fun W1 H1 st al => by
  have h1 := ex_t (st.ex.trans hide_ex) h
  refine ⟨fun i hi => ⟨xs, h1, by rw [q.length]; exact hi⟩, fun i d hd => ?_⟩
  obtain ⟨x, hx, qx⟩ := q.get hd
  exact ⟨⟨xs, x, h1, hx⟩, fun y H' ⟨e, hy⟩ => by subst e; cases (hy xs h1).symm.trans hx; exact ⟨Ex.refl _, st.rep qx⟩⟩
@[simp] def iterM (k : D → Option (List D)) (m : M D) : M (List D) := fun ρ => (m ρ).bd fun d ρ1 => ofO (k d) ρ1
theorem pit_list {tg e : Expr} {m : M D} (h : PD X Wx e m) : PIt X Wx tg e (iterM itL m) := by
  refine PI_imp (pi_list h) fun σ H R hq => ?_
  obtain ⟨ρ, L, W, rl, p⟩ := hq
  refine bd_I1 rl p fun x d es ρ1 W1 H1 rl1 q e k => ?_
  unfold itL at e
  split at e
  · cases e
    obtain ⟨a, xs, rfl, h, q⟩ := q.lst_inv
    exact ⟨a, rfl, ⟨xs, SqL.of (hide_some h).2⟩, k _ (ok_list (SqL.of h) q)⟩
  · cases e
    cases q with
    | scr h => exact ⟨_, rfl, ⟨_, ex_l hide_ex h⟩, k _ (ok_list h (reps_ints _))⟩
  · cases e
theorem pit_tup {tg e : Expr} {m : M D} (h : PD X Wx e m) : PIt X Wx tg e (iterM itT m) := by
  refine PI_imp (pi_tup h) fun σ H R hq => ?_
  obtain ⟨ρ, L, W, rl, p⟩ := hq
  refine bd_I1 rl p fun x d es ρ1 W1 H1 rl1 q e k => ?_
  unfold itT at e
  split at e
  · cases e
    obtain ⟨a, xs, rfl, h, q⟩ := q.tup_inv
    exact ⟨a, rfl, ⟨xs, ex_t hide_ex h⟩, k _ (ok_tup h q)⟩
  · cases e
def rngL (lo : Int) (n : Nat) : List D := (List.range n).map fun i => .int (lo + (i : Nat))
theorem ok_range {K : PySem.W.Frag} {L W : List Addr} {H : Hp} {lo : Int} {n : Nat} : ItOk K L W H (Itr lo n) (rngL lo n) := fun W1 H1 st al => by
  refine ⟨fun i hi => by
    show n ≤ i
    simpa [rngL] using hi, fun i d hd => ?_⟩
  have hi : i < n := by
    have := (List.getElem?_eq_some_iff.mp hd).1
    simpa [rngL] using this
  refine ⟨hi, fun x H' ⟨e, hx⟩ => ?_⟩
  subst e hx
  have : d = .int (lo + (i : Nat)) := by
    have h2 : (rngL lo n)[i]? = some (.int (lo + (i : Nat))) := by
      unfold rngL
      rw [List.getElem?_map, List.getElem?_range hi]; rfl
    exact Option.some.inj (hd.symm.trans h2)
  subst this
  exact ⟨Ex.refl _, .int _⟩
def rng1 : List D → Option (List D)
  | [.int n] => if n.natAbs ≤ 1000000000 then some (rngL 0 n.toNat) else none
  | _ => none
def rng2 : List D → Option (List D)
  | [.int a, .int n] => if a.natAbs ≤ 1000000000 ∧ n.natAbs ≤ 1000000000 then some (rngL a (n - a).toNat) else none
  | _ => none
@[simp] def iterA (k : List D → Option (List D)) (m : M (List D)) : M (List D) := fun ρ => (m ρ).bd fun ds ρ1 => ofO (k ds) ρ1
theorem pit_range1 {tg a : Expr} {p pos : Pos} {m : M (List D)} (hm : X.mg "range" = none) (ha : PAs X Wx [a] m) (hg : Gl X "range" := by rfl) (hs : starEach [a] X.env = [(false, eval a X.env)] := by rfl) : PIt X Wx tg (.Call (.Name "range" p) [a] [] pos) (iterA rng1 m) := by
  refine PI_imp (pi_range1 hg hm ha hs) fun σ H R hq => ?_
  obtain ⟨ρ, L, W, rl, p⟩ := hq
  refine bd_I rl p fun xs ds es ρ1 W1 H1 rl1 q e k => ?_
  unfold rng1 at e
  split at e
  · split at e
    · rename_i hh
      cases e
      obtain ⟨x, rfl, q1⟩ := q.one
      rw [q1.int_inv]
      exact ⟨_, rfl, by omega, by omega, by simpa using k _ ok_range⟩
    · cases e
  · cases e
def zipD (xs ys : List D) : List D := (xs.zip ys).map fun p => .tup [p.1, p.2]
def zip2 : List D → Option (List D)
  | [.lst xs, .lst ys] => some (zipD xs ys)
  | [.tup xs, .tup ys] => some (zipD xs ys)
  | _ => none
end
end P
namespace P
open PySem PySem.Spec PyProof.Rows L2
def valsOf : List Slot → Option (List D)
  | [] => some []
  | .val d :: r => (valsOf r).map (d :: ·)
  | _ :: _ => none
@[simp] theorem valsOf_map : ∀ ds : List D, valsOf (ds.map .val) = some ds
  | [] => rfl
  | d :: r => by simp only [List.map_cons, valsOf, valsOf_map r, Option.map_some]
theorem valsOf_eq : ∀ {ss : List Slot} {ds : List D}, valsOf ss = some ds → ss = ds.map .val
  | [], _, h => by cases h; rfl
  | .val d :: r, _, h => by
    simp only [valsOf, Option.map_eq_some_iff] at h
    obtain ⟨ds, h, rfl⟩ := h
    rw [valsOf_eq h]; rfl
  | .unb :: _, _, h => by cases h
  | .ownL _ :: _, _, h => by cases h
  | .ownD _ _ _ :: _, _, h => by cases h
  | .ownI _ _ _ :: _, _, h => by cases h
def getL (ρ : Env) (i : Nat) : Option (List D) := match ρ[i]? with
  | some (.ownL ss) => valsOf ss
  | _ => none
@[simp] def ownV (ds : List D) : Slot := .ownL (ds.map .val)
theorem getL_eq {ρ : Env} {i : Nat} {ds : List D} (h : getL ρ i = some ds) : ρ[i]? = some (ownV ds) := by
  unfold getL at h
  split at h
  · rename_i ss e; rw [e, valsOf_eq h]; rfl
  · cases h
section
variable {K : PySem.W.Frag} {G H : Hp}
theorem RelE.upd : ∀ {W : List Addr} {σ : L2.St} {ρ : Env} {i : Nat} {s : Slot}, RelE K G H W σ ρ → ρ[i]? = some s → s ≠ .unb →
    ∃ (v : V) (A f B : List Addr), σ[i]? = some (some v) ∧ W = A ++ f ++ B ∧ RelS K G H f v s ∧ RelE K G H (A ++ B) σ (ρ.set i .unb) ∧
      ∀ (H' : Hp) (s' : Slot) (f' : List Addr), RelS K G H' f' v s' → (∀ a ∈ A ++ B, H' a = H a) → RelE K G H' (A ++ f' ++ B) σ (ρ.set i s')
  | _, _, _, _, _, .nil, e, _ => by simp at e
  | _, _, _, 0, _, .unb r, e, n => by simp at e; exact absurd e.symm n
  | _, _, _, 0, _, .cons (f := f) (g := g) h r, e, _ => by
    simp at e; subst e
    exact ⟨_, [], f, g, rfl, rfl, h, .unb r, fun H' s' f' h' k => by simpa using RelE.cons h' (r.mono (Ex.refl _) fun a ha => k a (by simp [ha]))⟩
  | _, _, _, i + 1, _, .unb r, e, n => by
    obtain ⟨v, A, f, B, h1, h2, h3, h5, h4⟩ := r.upd (i := i) (by simpa using e) n
    exact ⟨v, A, f, B, by simpa using h1, h2, h3, .unb h5, fun H' s' f' h' k => .unb (h4 H' s' f' h' k)⟩
  | _, _, _, i + 1, _, .cons (f := g) h r, e, n => by
    obtain ⟨v, A, f, B, h1, h2, h3, h5, h4⟩ := r.upd (i := i) (by simpa using e) n
    refine ⟨v, g ++ A, f, B, by simpa using h1, by rw [h2]; simp, h3, by simpa using RelE.cons h h5, fun H' s' f' h' k => ?_⟩
    have := RelE.cons (h.mono (Ex.refl _) fun a ha => k a (by simp [ha])) (h4 H' s' f' h' fun a ha => k a (by
      simp only [List.mem_append] at ha ⊢
      rcases ha with h | h <;> simp [h]))
    simpa using this
end
section
variable {K : PySem.W.Frag} {L W : List Addr} {ρ : Env} {σ : L2.St} {H : Hp}
theorem Rl.own (r : Rl K L W ρ σ H) {i : Nat} {ds : List D} (e : getL ρ i = some ds) : ∃ a xs, σ[i]? = some (some (.ref a)) ∧ H a = some (.lst xs) ∧ Reps K (hide H (W ++ L)) xs ds ∧
    ∀ ys es, Reps K (hide H (W ++ L)) ys es → Rl K L W (ρ.set i (ownV es)) σ (upd H a (.lst ys)) ∧ Stp L W H W (upd H a (.lst ys)) := by
  obtain ⟨v, A, f, B, h1, h2, h3, _, h4⟩ := r.rel.upd (getL_eq e) (by simp)
  cases h3 with
  | @ownL a xs _ fp h q =>
    obtain ⟨e0, q1⟩ := q.vals
    subst e0
    have am : a ∈ W := by rw [h2]; simp
    refine ⟨a, xs, h1, h, q1, fun ys es q' => ?_⟩
    have hh : hide (upd H a (.lst ys)) (W ++ L) = hide H (W ++ L) := hide_upd _ (by simp [am])
    have ne : ∀ b ∈ A ++ B, b ≠ a := fun b hb z => by
      subst z
      have nd := r.nd
      rw [h2] at nd
      have nd2 : (b :: (A ++ B)).Nodup := by
        refine List.Perm.nodup_iff ?_ |>.mp nd
        rw [List.append_assoc]
        exact List.perm_middle
      exact (List.nodup_cons.mp nd2).1 hb
    have na : ∀ b ∈ L, b ≠ a := fun b hb z => by subst z; exact r.dj b hb am
    refine ⟨⟨?_, r.nd, r.dj, fun b hb => by rw [upd_ne (na b hb)]; exact r.lk b hb⟩, ⟨by rw [hh]; exact Ex.refl _, fun b hb => .inl hb, fun b hb => upd_ne (na b hb)⟩⟩
    rw [hh]
    have z := h4 (upd H a (.lst ys)) (ownV es) [a] (.ownL upd_same (relSs_vals q')) fun b hb => upd_ne (ne b hb)
    rw [← h2] at z
    exact z
theorem Rl.freeze (r : Rl K L W ρ σ H) {i : Nat} {s : Slot} {d : D} (e : ρ[i]? = some s) (hs : s.fz = some d) : ∃ W', Stp L W H W' H ∧ Rl K L W' (ρ.set i (.val d)) σ H := by
  have n : s ≠ .unb := fun z => by subst z; cases hs
  obtain ⟨v, A, f, B, h1, h2, h3, h5, _⟩ := r.rel.upd e n
  have sub : ∀ a ∈ A ++ B, a ∈ W := fun a h => by rw [h2]; simp only [List.mem_append] at h ⊢; rcases h with h | h <;> simp [h]
  have nd : (A ++ B).Nodup := by
    have := r.nd
    rw [h2, List.append_assoc] at this
    obtain ⟨h1, h2, h3⟩ := List.nodup_append.mp this
    obtain ⟨_, h4, _⟩ := List.nodup_append.mp h2
    exact List.nodup_append.mpr ⟨h1, h4, fun a ha b hb => h3 a ha b (by simp [hb])⟩
  have ex : Ex (hide H (W ++ L)) (hide H ((A ++ B) ++ L)) := hide_mono (Ex.refl _) fun a h => by
    simp only [List.mem_append] at h ⊢
    rcases h with h | h
    · exact .inl (.inl (sub a (by simpa using h)))
    · exact .inl (.inr h)
  have fo : ∀ a ∈ f, a ∉ A ++ B := fun a ha hb => by
    have n1 := r.nd
    rw [h2] at n1
    obtain ⟨n2, _, n3⟩ := List.nodup_append.mp n1
    obtain ⟨_, _, n4⟩ := List.nodup_append.mp n2
    rcases List.mem_append.mp hb with hb | hb
    · exact n4 a hb a ha rfl
    · exact n3 a (by simp [ha]) a hb rfl
  have fw : ∀ a ∈ f, a ∈ W := fun a ha => by rw [h2]; simp [ha]
  have st : Stp L W H (A ++ B) H := ⟨ex, fun a h => .inl (sub a h), fun _ _ => rfl⟩
  have rv : Rep K (hide H ((A ++ B) ++ L)) v d := h3.fz ex (fun a ha => hide_out fun m => by
    rcases List.mem_append.mp m with m | m
    · exact fo a ha m
    · exact r.dj a m (fw a ha)) hs
  have r5 : Rl K L (A ++ B) (ρ.set i .unb) σ H := ⟨h5.mono ex fun _ _ => rfl, nd, fun a ha q => r.dj a ha (sub a q), r.lk⟩
  obtain ⟨W6, st6, r6⟩ := (r5.push rv).store i (by simp)
  rw [List.set_set, show σ.set i (some v) = σ from by
    apply List.ext_getElem?
    intro j
    by_cases e : i = j
    · subst e
      have : i < σ.length := (List.getElem?_eq_some_iff.mp h1).1
      rw [List.getElem?_set_self this, h1]
    · rw [List.getElem?_set_ne e]] at r6
  exact ⟨W6, st.trans st6, r6⟩
end
@[simp] def frzS (i : Nat) (m : S) : S := fun ρ => match ρ[i]? with
  | some s => (match s.fz with
    | some d => m (ρ.set i (.val d))
    | none => .stuck)
  | none => .stuck
def withL {α : Type} (i : Nat) (m : M D) (k : List D → D → M α) : M α := fun ρ => match getL ρ i with
  | none => .stuck
  | some _ => (m ρ).bd fun d ρ1 => match getL ρ1 i with
    | none => .stuck
    | some ds => k ds d ρ1
@[simp] def appM (i : Nat) (m : M D) : M D := withL i m fun ds d ρ => if ds.length < 1000000 then .ok .non (ρ.set i (ownV (ds ++ [d]))) else .stuck
@[simp] def ixO (i : Nat) (m : M D) : M D := withL i m fun ds d ρ => match d with
  | .int k => ofO (atI ds k) ρ
  | _ => .stuck
@[simp] def lenO (i : Nat) : M D := fun ρ => match getL ρ i with
  | none => .stuck
  | some ds => .ok (.int ds.length) ρ
@[simp] def setIxS (i : Nat) (mk me : M D) : S := fun ρ => Out.of ((me ρ).bd fun d ρ1 => (withL (α := Out) i mk (fun ds k ρ2 => match k with
  | .int k => (match ixN ds.length k with
    | some j => .ok (.nx (ρ2.set i (ownV (ds.set j d)))) ρ2
    | none => .stuck)
  | _ => .stuck) ρ1))
@[simp] def popM (i : Nat) : M D := fun ρ => match getL ρ i with
  | none => .stuck
  | some ds => (match ds[ds.length - 1]? with
    | some d => .ok d (ρ.set i (ownV ds.dropLast))
    | none => .stuck)
@[simp] def popAtM (i : Nat) (m : M D) : M D := withL i m fun ds d ρ => match d with
  | .int k => if 0 ≤ k ∧ k < ds.length ∧ k < 1000000000 then (match ds[k.toNat]? with
    | some d => .ok d (ρ.set i (ownV (ds.eraseIdx k.toNat)))
    | none => .stuck) else .stuck
  | _ => .stuck
theorem withL_map {α β : Type} {i : Nat} {m : M D} {k : List D → D → M α} {f : α → β} (ρ : Env) : (withL i m k ρ).map f = withL i m (fun ds d ρ => (k ds d ρ).map f) ρ := by
  unfold withL
  cases getL ρ i with
  | none => rfl
  | some _ =>
    simp only [Res.bd]
    cases m ρ with
    | ok d ρ1 => simp only [Res.bd]; cases getL ρ1 i <;> rfl
    | er e ρ1 => rfl
    | stuck => rfl
section
variable {X : Cx} {Wx : WX} {J : List Nat}
theorem pst_frz {st : Stmt} {m : S} (i : Nat) (h : PSt X Wx J st m) : PSt X Wx J st (frzS i m) := by
  refine PS_imp h fun E σ H h => ?_
  obtain ⟨ρ, L, W, rl, p⟩ := h
  revert p
  show PostS X.K Wx J σ L W H E (frzS i m ρ) → _
  unfold frzS
  split
  · rename_i s e
    split
    · rename_i d hd
      intro p
      obtain ⟨W1, st1, rl1⟩ := rl.freeze e hd
      exact ⟨_, L, W1, rl1, PostS.step .refl st1 p⟩
    · exact fun p => p.elim
  · exact fun p => p.elim
theorem psl_frz {sts : List Stmt} {m : S} (i : Nat) (h : PSL X Wx J sts m) : PSL X Wx J sts (frzS i m) := by
  refine PSs_imp h fun E σ H h => ?_
  obtain ⟨ρ, L, W, rl, p⟩ := h
  revert p
  show PostS X.K Wx J σ L W H E (frzS i m ρ) → _
  unfold frzS
  split
  · rename_i s e
    split
    · rename_i d hd
      intro p
      obtain ⟨W1, st1, rl1⟩ := rl.freeze e hd
      exact ⟨_, L, W1, rl1, PostS.step .refl st1 p⟩
    · exact fun p => p.elim
  · exact fun p => p.elim
theorem own_use {K : PySem.W.Frag} {β : Type} {T : Res β → Prop} {i : Nat} {m : M D} {k : List D → D → Env → Res β} {L W : List Addr} {ρ : Env} {σ : L2.St} {H : Hp} {R : V → V → Hp → Prop} (rl : Rl K L W ρ σ H) (p : T (withL i m k ρ))
    (hR : ∀ a xs x d ds ρ1 W1 H1, Stp L W H W1 H1 → Rl K L W1 ρ1 σ H1 → getL ρ1 i = some ds → σ[i]? = some (some (.ref a)) → H1 a = some (.lst xs) → Reps K (hide H1 (W1 ++ L)) xs ds → Rep K (hide H1 (W1 ++ L)) x d →
      (∀ ys es, Reps K (hide H1 (W1 ++ L)) ys es → Rl K L W1 (ρ1.set i (ownV es)) σ (upd H1 a (.lst ys)) ∧ Stp L W1 H1 W1 (upd H1 a (.lst ys))) → T (k ds d ρ1) → R (.ref a) x H1)
    (hs : T .stuck → False := by exact id) (he : ∀ e ρ', T (.er e ρ') → ErP K Wx σ L W H e ρ' := by exact fun _ _ h => h) :
    ∃ a xs, σ[i]? = some (some (.ref a)) ∧ H a = some (.lst xs) ∧ tE K Wx (vl m) σ H fun x H1 => R (.ref a) x H1 := by
  unfold withL at p
  cases e : getL ρ i with
  | none => rw [e] at p; exact (hs p).elim
  | some ds0 =>
    rw [e] at p
    obtain ⟨a, xs, h1, h2, h3, h4⟩ := rl.own e
    refine ⟨a, xs, h1, h2, bd_D (T := T) rl p (fun x d ρ1 W1 H1 st1 rl1 q1 p => ?_) hs he⟩
    cases e1 : getL ρ1 i with
    | none => rw [e1] at p; exact (hs p).elim
    | some ds =>
      rw [e1] at p
      obtain ⟨a', ys, g1, g2, g3, g4⟩ := rl1.own e1
      cases h1.symm.trans g1
      exact hR a ys x d ds ρ1 W1 H1 st1 rl1 e1 g1 g2 g3 q1 g4 p
theorem px_app {i : Nat} {x : Str} {e : Expr} {m : M D} {p1 apos cpos : Pos} (ha : PD X Wx e m) (hN : X.N[i]? = some x := by rfl) (hv : Vis X.env.scope x := by first | exact Or.inl rfl | exact Or.inr (Or.inl rfl) | exact Or.inr (Or.inr rfl)) (hd : (x == ("__debug__" : Str)) = false := by decide)
    (hcd : (x == ("__classdict__" : Str)) = false := by decide) (hbase : attributeBase (.Name x p1) "append" X.env (eval (.Name x p1) X.env) = eval (.Name x p1) X.env := by rfl) (hfew : ((backTo cpos (starEach [e] X.env)).all (fun x => !x.1) && (backToKw cpos (keywordEach [] X.env)).all (fun x => x.1.isSome)
      && decide (([e] : List Expr).length + ([] : List Keyword).length + (if ([] : List Keyword).isEmpty then 0 else 1) < 30)) = true := by rfl)
    (hline : (apos.endLine == cpos.line) = true := by rfl) (hs : starEach [e] X.env = (false, eval e X.env) :: starEach [] X.env := by rfl) (hplain : (backTo cpos (starEach [] X.env)).any (·.1) = false := by rfl) :
    PD X Wx (.Call (.Attribute (.Name x p1) "append" apos) [e] [] cpos) (appM i m) := by
  refine PE_imp (pe_bm PySem.F.plainAttrs_list PySem.F.slot_list_append PySem.F.type_list_append mt_append (pe_var (i := i) hN hv hd hcd) (pa_cons ha pa_nil hs) hbase hfew hline hs hplain) fun σ H Q h => ?_
  obtain ⟨ρ, L, W, rl, p⟩ := h
  simp only [vl, appM, withL_map] at p
  obtain ⟨a, xs, h1, h2, h3⟩ := own_use (T := Post X.K Wx σ L W H Q) (R := fun o x H1 => rAppend o [x] H1 Q) rl p fun a xs x d ds ρ1 W1 H1 st1 rl1 e1 g1 g2 g3 q1 g4 p => by
    by_cases c : ds.length < 1000000
    · rw [if_pos c] at p
      have z := g4 (xs ++ [x]) (ds ++ [d]) (g3.append (.cons q1 .nil))
      refine ⟨a, xs, x, rfl, rfl, g2, ?_, Post.here (p.step (st1.trans z.2)) z.1 (Ex.refl _) .non⟩
      rw [g3.length, sizeLine_eq]; omega
    · rw [if_neg c] at p
      exact p.elim
  exact ⟨_, h1, .inl ⟨rfl, _, SqL.of h2⟩, h3⟩
theorem px_ixO {i : Nat} {x : Str} {e : Expr} {m : M D} {p1 pos : Pos} (ha : PD X Wx e m) (hN : X.N[i]? = some x := by rfl) (hv : Vis X.env.scope x := by first | exact Or.inl rfl | exact Or.inr (Or.inl rfl) | exact Or.inr (Or.inr rfl)) (hd : (x == ("__debug__" : Str)) = false := by decide)
    (hcd : (x == ("__classdict__" : Str)) = false := by decide) (hs : PlainIx e := by exact fun _ _ => rfl) : PD X Wx (.Subscript (.Name x p1) e pos) (ixO i m) := by
  refine PE_imp (pe_ix ix_list (pe_var (i := i) hN hv hd hcd) ha hs) fun σ H Q h => ?_
  obtain ⟨ρ, L, W, rl, p⟩ := h
  simp only [vl, ixO, withL_map] at p
  obtain ⟨a, xs, h1, h2, h3⟩ := own_use (T := Post X.K Wx σ L W H Q) (R := fun o x H1 => rIxL X.K o x H1 Q) rl p fun a xs x d ds ρ1 W1 H1 st1 rl1 e1 g1 g2 g3 q1 g4 p => by
    cases d with
    | int k =>
      obtain ⟨d', hd', p⟩ := Post.ofO p
      obtain ⟨y, hy, qy⟩ := g3.atI hd'
      exact ⟨a, xs, k, y, rfl, q1.int_inv, SqL.of g2, hy, (p.step st1).here rl1 (Ex.refl _) qy⟩
    | _ => exact p.elim
  exact ⟨_, h1, h3⟩
theorem px_lenO {i : Nat} {x y : Str} {p p1 pos : Pos} (hm : X.mg y = none) (hN : X.N[i]? = some x := by rfl) (hv : Vis X.env.scope x := by first | exact Or.inl rfl | exact Or.inr (Or.inl rfl) | exact Or.inr (Or.inr rfl)) (hd : (x == ("__debug__" : Str)) = false := by decide)
    (hcd : (x == ("__classdict__" : Str)) = false := by decide) (hv' : bootBuiltins y = some (.builtin "len") := by decide +kernel) (hg : Gl X y := by rfl) (hn : y ≠ "__name__" := by decide) (hdb : (y == ("__debug__" : Str)) = false := by decide)
    (he : starEach [.Name x p1] X.env = (false, eval (.Name x p1) X.env) :: starEach [] X.env := by rfl) (hpl : (backTo pos (starEach [] X.env)).any (·.1) = false := by rfl) : PD X Wx (.Call (.Name y p) [.Name x p1] [] pos) (lenO i) := by
  refine PE_imp (pe_callB call_len hg hm hv' (pa_cons (pe_var (i := i) hN hv hd hcd) pa_nil he) hn hdb he hpl) fun σ H Q h => ?_
  obtain ⟨ρ, L, W, rl, p⟩ := h
  simp only [vl, lenO] at p
  cases e : getL ρ i with
  | none => rw [e] at p; exact p.elim
  | some ds =>
    rw [e] at p
    obtain ⟨a, xs, h1, h2, h3, _⟩ := rl.own e
    have p : Post X.K Wx σ L W H Q (.ok (.val (.int ds.length)) ρ) := p
    exact ⟨_, h1, _, xs.length, rfl, .inl ⟨xs, SqL.of h2, rfl⟩, p.here rl (Ex.refl _) (by rw [h3.length]; exact .int _)⟩
theorem pst_setIx {i : Nat} {x : Str} {k e : Expr} {mk me : M D} {p1 ps pos : Pos} (he : PD X Wx e me) (hk : PD X Wx k mk) (hN : X.N[i]? = some x := by rfl) (hv : Vis X.env.scope x := by first | exact Or.inl rfl | exact Or.inr (Or.inl rfl) | exact Or.inr (Or.inr rfl)) (hd : (x == ("__debug__" : Str)) = false := by decide)
    (hcd : (x == ("__classdict__" : Str)) = false := by decide) (ha : ∀ v, assign (.Subscript (.Name x p1) k ps) X.env v = (do
      let ov ← holding [v] (eval (.Name x p1) X.env)
      let iv ← holding [v, ov] (eval k X.env)
      standAt ps
      holding [v, ov, iv] (setItem ov iv v)
      release [v, ov, iv] []) := by intro _; rfl) (hs : swapsWithSole [.Subscript (.Name x p1) k ps] e pos.line X.env = pure false := by rfl) (hw : swappedStores [.Subscript (.Name x p1) k ps] e X.env = pure none := by rfl)
    (h1 : (assignEach [.Subscript (.Name x p1) k ps] X.env).map (·.2) = [assign (.Subscript (.Name x p1) k ps) X.env] := by rfl) : PSt X Wx J (.Assign [.Subscript (.Name x p1) k ps] e pos) (setIxS i mk me) := by
  refine PS_imp (ps_asg he (pg_sub (pe_var (i := i) hN hv hd hcd) hk set_list ha) hs hw h1) fun E σ H h => ?_
  obtain ⟨ρ, L, W, rl, p⟩ := h
  refine bd_D (T := fun r => PostS X.K Wx J σ L W H E (Out.of r)) rl p (fun v d ρ1 W1 H1 st1 rl1 q1 p => ?_) id (fun e ρ' h c dd W' H' st r er => h c dd σ W' H' .refl st r er)
  obtain ⟨a, xs, h1, h2, h3⟩ := own_use (T := fun r => PostS X.K Wx J σ L W1 H1 E (Out.of r)) (R := fun o kx H2 => rSetL o kx v H2 fun H3 => E.nx σ H3) rl1 (PostS.step .refl st1 p) (fun a xs x kd ds ρ2 W2 H2 st2 rl2 e2 g1 g2 g3 q2 g4 p => by
    cases kd with
    | int kk =>
      cases ej : ixN ds.length kk with
      | none => simp only [ej] at p; exact p.elim
      | some j =>
        simp only [ej] at p
        have z := g4 (xs.set j v) (ds.set j d) (g3.set j (st2.rep q1))
        exact ⟨a, xs, kk, j, rfl, q2.int_inv, g2, by rw [g3.length]; exact ej, p σ W2 _ .refl (st2.trans z.2) z.1⟩
    | _ => exact p.elim) id (fun e ρ' h c dd W' H' st r er => h c dd σ W' H' .refl st r er)
  exact ⟨_, h1, h3⟩
end
end P
namespace P
open PySem PySem.Spec PyProof.Rows L2
@[simp] def startE (N : Nat) (ds : List D) : Env := ds.map .val ++ List.replicate (N - ds.length) .unb
@[simp] def Out.fr : Out → FR
  | .nx _ => .ok (.val .non)
  | .rt s _ => .ok s
  | .er e _ => .er e
  | _ => .stuck
def runP (N n : Nat) (m : S) (ds : List D) : FR := if ds.length = n then (m (startE N ds)).fr else .stuck
section
variable {K : PySem.W.Frag} {L W : List Addr} {ρ : Env} {σ : L2.St} {H H' : Hp}
theorem relE_start {G : Hp} {N : Nat} : ∀ {vs : List V} {ds : List D}, Reps K G vs ds → RelE K G H [] (vs.map some ++ List.replicate N none) (ds.map .val ++ List.replicate N .unb)
  | _, _, .nil => by
    induction N with
    | zero => exact .nil
    | succ n ih => exact .unb ih
  | _, _, .cons h r => .cons (f := []) (.val h) (relE_start r)
theorem Rl.top {s : Slot} {v : V} (r : Rl K L W (s :: ρ) (some v :: σ) H) : ∃ W', Stp L W H W' H ∧ Rl K L W' [s] [some v] H := by
  have r0 := r
  obtain ⟨rel, nd, dj, lk⟩ := r
  cases rel with
  | unb q => have z := r0.sub (W' := []) (σ' := [some v]) (RelE.unb .nil) .nil (fun a ha => by simp at ha); exact ⟨_, z.2, z.1⟩
  | @cons f g _ _ _ _ q r => have z := r0.sub (W' := f) (by simpa using RelE.cons q (.nil (G := hide H (f ++ g ++ L)) (H := H))) (List.nodup_append.mp nd).1 (fun a ha => by simp [ha]); exact ⟨_, z.2, z.1⟩
theorem Rl.none (r : Rl K L W ρ σ H) : Stp L W H [] H ∧ Rl K L [] [] [] H := by
  have z := r.sub (W' := []) RelE.nil .nil (fun a ha => by simp at ha)
  exact ⟨z.2, z.1⟩
end
section
variable {P : Program} {w : World} {K : PySem.W.Frag} {mg : Str → Option Value} {base : Heap} {x qual : Str} {params : Arguments} {body : List Stmt} {scope : Scope} {dvs : List V} {kws : List (Str × V)} {f : Addr} {fd : FuncData} {N ps : List Str} {k : Nat}
theorem start_eq {N : List Str} {vs : List V} {ds : List D} (h : vs.length = ds.length) : L2.start N vs = vs.map some ++ List.replicate (N.length - ds.length) Option.none := by unfold L2.start; rw [h]
theorem fn_pure {m : S} (F : FunD K x qual params body scope dvs kws f fd) (Sc : FnScope N ps scope)
    (hb : ∀ (cdv : Value) (A : Around) (outer : List PySem.Env) (s : Shared) (H : Hp) (E : XK), Rm k (A.deeper (envOfC qual scope s.heap.objs.size f cdv)) →
      L2N.Takes (cxOf (L2N.CX P w) P w K mg base N qual scope f cdv A outer s H E) (fun c d _ H' => E c d H') →
      PassesOwn (model P w) (cxOf (L2N.CX P w) P w K mg base N qual scope f cdv A outer s H E).A (cxOf (L2N.CX P w) P w K mg base N qual scope f cdv A outer s H E).env (cxOf (L2N.CX P w) P w K mg base N qual scope f cdv A outer s H E).xe →
      PSL (cxOf (L2N.CX P w) P w K mg base N qual scope f cdv A outer s H E) (fun c d _ H' => E c d H') [] body m) :
    FnG P w K mg base (k + 1) f fd ps (spP K (runP N.length ps.length m)) := by
  refine FnG.of_body F Sc (fun vs H Q E h => ?_) fun cdv A outer s H vs Q E hr h => ?_
  · obtain ⟨L, ds, al, q, p⟩ := h
    unfold runP at p
    by_cases c : ds.length = ps.length
    · exact q.length.trans c
    · rw [if_neg c] at p; exact p.elim
  · obtain ⟨L, ds, al, q, p⟩ := h
    refine ⟨_, hb cdv A outer s H E hr (L2N.takes_of rfl rfl rfl rfl) (passes_of rfl), ?_⟩
    unfold runP at p
    by_cases c : ds.length = ps.length
    · rw [if_pos c] at p
      have rl : Rl K L [] (startE N.length ds) (L2.start N vs) H := by
        rw [start_eq q.length]
        exact ⟨relE_start q, .nil, fun _ _ z => by simp at z, al⟩
      refine ⟨startE N.length ds, L, [], rl, ?_⟩
      revert p
      cases m (startE N.length ds) with
      | nx ρ' =>
        intro p σ' W' H' _ st rl
        have z := rl.none
        exact p .non [] H' (st.trans z.1) (z.2.push .non)
      | bk ρ' => exact fun p => p.elim
      | ct ρ' => exact fun p => p.elim
      | rt s ρ' =>
        intro p v σ' W' H' _ st rl
        obtain ⟨W2, st2, rl2⟩ := rl.top
        exact p v W2 H' (st.trans st2) rl2
      | er e ρ' => exact fun p c dd σ' W' H' _ st rl er => p c dd W' H' st (fun a ha => rl.alloc a (by simp [ha])) er
      | stuck => exact fun p => p.elim
    · rw [if_neg c] at p; exact p.elim
def pick {α : Type} (ix : List Nat) (us : List α) : List α := ix.filterMap fun i => us[i]?
theorem pick_reps {K : PySem.W.Frag} {G : Hp} : ∀ (ix : List Nat) {vs : List V} {ds : List D}, Reps K G vs ds → Reps K G (pick ix vs) (pick ix ds)
  | [], _, _, _ => .nil
  | i :: ix, vs, ds, h => by
    unfold pick
    rw [List.filterMap_cons, List.filterMap_cons]
    cases e : ds[i]? with
    | none =>
      have : vs[i]? = Option.none := List.getElem?_eq_none_iff.mpr (by rw [h.length]; exact List.getElem?_eq_none_iff.mp e)
      rw [this]; exact pick_reps ix h
    | some d =>
      obtain ⟨x, hx, q⟩ := h.get e
      rw [hx]; exact .cons q (pick_reps ix h)
theorem pick_vals : ∀ (ix : List Nat) {vs : List V} {us : List Value}, Vals vs us → Vals (pick ix vs) (pick ix us)
  | [], _, _, _ => .nil
  | i :: ix, vs, us, h => by
    unfold pick
    rw [List.filterMap_cons, List.filterMap_cons]
    cases e : vs[i]? with
    | none =>
      have := Vals.none_of h e
      rw [this]; exact pick_vals ix h
    | some d =>
      obtain ⟨x, hx, q⟩ := h.get e
      rw [hx]; exact .cons q (pick_vals ix h)
theorem kbd_pos (F : FunD K x qual params body scope [] kws f fd)
    (h : ∀ (kV doc pm : Value) (an : Option Addr) (cdv ct : Value) (us : List Value), us.length = ps.length → bindArgs (PySem.W.fnOf x qual params body scope .none kV doc pm an cdv ct) ⟨us, []⟩ = pure (ps.zip us)) : KBd K fd ps ps.length [] (fun ds _ => ds) := by
  obtain ⟨oc, od, dV, kV, doc, pm, an, cdv, ct, osl, rfl, lk, hcd, hD, hK⟩ := F.ex
  rcases hD with ⟨_, rfl⟩ | ⟨e, _⟩
  · refine ⟨fun us _ => us, fun vs _ => vs, ⟨fun s us ws _ l1 l2 => ?_, fun r _ => r⟩, fun G vs zs ds es r _ => r⟩
    cases ws with
    | nil => exact .of_eq (h kV doc pm an cdv ct us l1)
    | cons _ _ => cases l2
  · exact absurd rfl e
theorem kbd_kw (F : FunD K x qual params body scope [] kws f fd) (n : Nat) (ks : List Str) (ix : List Nat)
    (h : ∀ (kV doc pm : Value) (an : Option Addr) (cdv ct : Value) (us ws : List Value), us.length = n → ws.length = ks.length → bindArgs (PySem.W.fnOf x qual params body scope .none kV doc pm an cdv ct) ⟨us, ks.zip ws⟩ = pure (ps.zip (pick ix (us ++ ws)))) : KBd K fd ps n ks (fun ds es => pick ix (ds ++ es)) := by
  obtain ⟨oc, od, dV, kV, doc, pm, an, cdv, ct, osl, rfl, lk, hcd, hD, hK⟩ := F.ex
  rcases hD with ⟨_, rfl⟩ | ⟨e, _⟩
  · exact ⟨fun us ws => pick ix (us ++ ws), fun vs zs => pick ix (vs ++ zs), ⟨fun s us ws _ l1 l2 => .of_eq (h kV doc pm an cdv ct us ws l1 l2), fun r q => pick_vals ix (r.append q)⟩, fun G vs zs ds es r q => pick_reps ix (r.append q)⟩
  · exact absurd rfl e
theorem kbd_df (F : FunD K x qual params body scope dvs kws f fd) (n : Nat) (ks : List Str) (dds : List D) (ix : List Nat) (hd0 : dvs ≠ []) (hd : ∀ G, Reps K G dvs dds)
    (h : ∀ (T : Addr) (kV doc pm : Value) (an : Option Addr) (cdv ct : Value) (us its ws : List Value), us.length = n → its.length = dvs.length → ws.length = ks.length →
      ∃ k, bindArgs (PySem.W.fnOf x qual params body scope (.ref T) kV doc pm an cdv ct) ⟨us, ks.zip ws⟩ = seqItems? (.ref T) >>= k ∧ k (some its.toArray) = pure (ps.zip (pick ix (us ++ ws ++ its)))) : KBd K fd ps n ks (fun ds es => pick ix (ds ++ es ++ dds)) := by
  obtain ⟨its, hb⟩ := FunD.kbindsD F n ks (fun us its ws => pick ix (us ++ ws ++ its)) hd0 (fun r1 r2 r3 => pick_vals ix ((r1.append r3).append r2)) h
  exact ⟨_, _, hb, fun G vs zs ds es r q => pick_reps ix ((r.append q).append (hd G))⟩
end
structure ExcF (K : PySem.W.Frag) (c : Str) : Prop where
  x : PySem.W.excIn K (He.ga K c) [.type "ValueError", .type "Exception", .type "BaseException", .type "object"] "ValueError.__new__" = true
  k : PySem.W.keepIn K (.ref (He.ga K c)) = true
  b : PySem.W.subIn K (.ref (He.ga K c)) (.type "BaseException") = some true
  t : PySem.W.typeIn K (.ref (He.ga K c)) = some (.type "type")
@[simp] def raiseS (c : Str) : S := fun ρ => .er ⟨c, [], []⟩ ρ
theorem pst_raise {X : Cx} {Wx : WX} {J : List Nat} {c m : Str} {j : Nat} {p p2 pos pos' : Pos} (F : ExcF X.K c) (gC : X.mg c = some (.ref (He.ga X.K c))) (tk : L2N.Takes X Wx) (hc : X.calm = true) (hg : Gl X c := by rfl) (hdb : (c == ("__debug__" : Str)) = false := by decide) :
    PSt X Wx J (.Raise (some (.Call (.Name c p) [.Constant (.str m) j p2] [] pos)) .none pos') (raiseS c) := by
  refine PS_imp (L2N.ps_raise hc tk (L2N.pmk_own PySem.F.excBase_ValueError F.x gC F.k (raises_own F.b F.t) hg hdb)) fun E σ H h => ?_
  obtain ⟨ρ, L, W, rl, p⟩ := h
  exact p _ _ σ W H .refl .refl rl ⟨rfl, .inl ⟨rfl, rfl⟩⟩
end P
namespace P
open PySem PySem.Spec PyProof.Rows L2
inductive FM where
  | ok (s : Slot) (ms : List Slot)
  | er (e : Err) (ms : List Slot)
  | stuck
@[simp] def sel {α : Type} : List Bool → List α → List α
  | true :: m, x :: xs => x :: sel m xs
  | false :: m, _ :: xs => sel m xs
  | _, _ => []
def FMP (K : PySem.W.Frag) (L W : List Addr) (H : Hp) (mvs : List V) (Q : VK) (E : XK) : FM → Prop
  | .ok s ms => ∀ v W' H', Stp L W H W' H' → Rl K L W' (ms ++ [s]) (mvs.map some ++ [some v]) H' → Q v H'
  | .er e ms => ∀ c dd W' H', Stp L W H W' H' → Rl K L W' ms (mvs.map some) H' → ErrRep K (hide H' (W' ++ L)) c dd e → E c dd H'
  | .stuck => False
def spM (K : PySem.W.Frag) (mm : List Bool) (F : List Slot → FM) : Sp := fun vs H Q E => ∃ L W ss, vs.length = mm.length ∧ Rl K L W ss (vs.map some) H ∧ FMP K L W H (sel mm vs) Q E (F ss)
section
variable {K : PySem.W.Frag} {G : Hp} {L W : List Addr} {ρ : Env} {σ : L2.St} {H H' : Hp}
theorem RelE.sel : ∀ (mm : List Bool) {W : List Addr} {σ : L2.St} {ρ : Env}, RelE K G H W σ ρ → ∃ W', W'.Sublist W ∧ RelE K G H W' (P.sel mm σ) (P.sel mm ρ)
  | [], W, σ, ρ, h => ⟨[], List.nil_sublist _, by cases h <;> exact .nil⟩
  | b :: mm, _, _, _, .nil => ⟨[], List.nil_sublist _, by cases b <;> exact .nil⟩
  | true :: mm, _, _, _, .unb r => by
    obtain ⟨W', s, h⟩ := r.sel mm
    exact ⟨W', s, .unb h⟩
  | false :: mm, _, _, _, .unb r => by
    obtain ⟨W', s, h⟩ := r.sel mm
    exact ⟨W', s, h⟩
  | true :: mm, _, _, _, .cons (f := f) q r => by
    obtain ⟨W', s, h⟩ := r.sel mm
    exact ⟨f ++ W', s.append_left f, .cons q h⟩
  | false :: mm, _, _, _, .cons (f := f) q r => by
    obtain ⟨W', s, h⟩ := r.sel mm
    exact ⟨W', s.trans (List.sublist_append_right f _), h⟩
theorem Rl.sel (r : Rl K L W ρ σ H) (mm : List Bool) : ∃ W', Stp L W H W' H ∧ Rl K L W' (P.sel mm ρ) (P.sel mm σ) H := by
  obtain ⟨W', s, h⟩ := r.rel.sel mm
  have z := r.sub h (r.nd.sublist s) (fun a ha => s.subset ha)
  exact ⟨W', z.2, z.1⟩
theorem Rl.rot {s : Slot} {v : V} (r : Rl K L W (s :: ρ) (some v :: σ) H) : ∃ W', Stp L W H W' H ∧ Rl K L W' (ρ ++ [s]) (σ ++ [some v]) H := by
  have app : ∀ {W1 W2 : List Addr} {σ1 σ2 : L2.St} {ρ1 ρ2 : Env} {G : Hp}, RelE K G H W1 σ1 ρ1 → RelE K G H W2 σ2 ρ2 → RelE K G H (W1 ++ W2) (σ1 ++ σ2) (ρ1 ++ ρ2) := by
    intro W1 W2 σ1 σ2 ρ1 ρ2 G h1 h2
    induction h1 with
    | nil => exact h2
    | unb _ ih => exact .unb ih
    | cons q _ ih => rw [List.append_assoc]; exact .cons q ih
  have r0 := r
  obtain ⟨rel, nd, dj, lk⟩ := r
  cases rel with
  | unb q =>
    have z := r0.sub (W' := W ++ []) (app q (.unb (o := some v) .nil)) (by simpa using nd) (fun a ha => by simpa using ha)
    exact ⟨_, z.2, z.1⟩
  | @cons f g _ _ _ _ q r =>
    have z := r0.sub (W' := g ++ (f ++ [])) (app r (.cons q .nil)) (by
      rw [List.append_nil]
      exact (List.perm_append_comm (l₁ := g) (l₂ := f)).nodup_iff.mpr nd) (fun a ha => by
        simp only [List.append_nil, List.mem_append] at ha ⊢
        exact ha.symm)
    exact ⟨_, z.2, z.1⟩
theorem RelE.app : ∀ {W1 W2 : List Addr} {σ1 σ2 : L2.St} {ρ1 ρ2 : Env}, RelE K G H W1 σ1 ρ1 → RelE K G H W2 σ2 ρ2 → RelE K G H (W1 ++ W2) (σ1 ++ σ2) (ρ1 ++ ρ2)
  | _, _, _, _, _, _, .nil, h2 => h2
  | _, _, _, _, _, _, .unb r, h2 => .unb (r.app h2)
  | _, _, _, _, _, _, .cons q r, h2 => by rw [List.append_assoc]; exact .cons q (r.app h2)
theorem RelE.split : ∀ {ρ1 ρ2 : Env} {σ1 σ2 : L2.St} {W : List Addr}, RelE K G H W (σ1 ++ σ2) (ρ1 ++ ρ2) → σ1.length = ρ1.length → ∃ W1 W2, W = W1 ++ W2 ∧ RelE K G H W1 σ1 ρ1 ∧ RelE K G H W2 σ2 ρ2
  | [], ρ2, [], σ2, W, h, _ => ⟨[], W, rfl, .nil, h⟩
  | [], _, _ :: _, _, _, _, e => by cases e
  | _ :: _, _, [], _, _, _, e => by cases e
  | s :: ρ1, ρ2, o :: σ1, σ2, W, h, e => by
    have h : RelE K G H W (o :: (σ1 ++ σ2)) (s :: (ρ1 ++ ρ2)) := h
    cases h with
    | unb r =>
      obtain ⟨W1, W2, e1, h1, h2⟩ := r.split (by simpa using e)
      exact ⟨W1, W2, e1, .unb h1, h2⟩
    | @cons f g _ _ _ _ q r =>
      obtain ⟨W1, W2, e1, h1, h2⟩ := r.split (by simpa using e)
      exact ⟨f ++ W1, W2, by rw [e1, List.append_assoc], .cons q h1, h2⟩
end
theorem sel_ag {σ0 σ : L2.St} : ∀ (mm : List Bool) (k : Nat), (∀ j, mm[j]? = some true → σ[k + j]? = σ0[k + j]?) → σ.length = σ0.length → sel mm (σ.drop k) = sel mm (σ0.drop k)
  | [], k, _, _ => by simp
  | b :: mm, k, h, hl => by
    have ih := sel_ag (σ0 := σ0) (σ := σ) mm (k + 1) (fun j hj => by
      have := h (j + 1) (by simpa using hj)
      rwa [show k + (j + 1) = k + 1 + j by omega] at this) hl
    by_cases hk : k < σ.length
    · have h0 : k < σ0.length := by omega
      rw [List.drop_eq_getElem_cons hk, List.drop_eq_getElem_cons h0]
      cases b with
      | false => exact ih
      | true =>
        have := h 0 rfl
        rw [Nat.add_zero, List.getElem?_eq_getElem hk, List.getElem?_eq_getElem h0] at this
        simp only [sel]
        rw [Option.some.inj this, ih]
    · rw [List.drop_eq_nil_of_le (by omega), List.drop_eq_nil_of_le (by omega)]
theorem sel_map {α β : Type} (f : α → β) : ∀ (mm : List Bool) (xs : List α), sel mm (xs.map f) = (sel mm xs).map f
  | [], xs => by simp
  | b :: mm, [] => by cases b <;> rfl
  | true :: mm, x :: xs => by simp [sel_map f mm xs]
  | false :: mm, x :: xs => by simp [sel_map f mm xs]
theorem sel_append {α : Type} : ∀ (mm : List Bool) (xs ys : List α), mm.length = xs.length → sel mm (xs ++ ys) = sel mm xs
  | [], [], ys, _ => by simp
  | [], _ :: _, _, h => by cases h
  | _ :: _, [], _, h => by cases h
  | true :: mm, x :: xs, ys, h => by simp [sel_append mm xs ys (by simpa using h)]
  | false :: mm, x :: xs, ys, h => by simp [sel_append mm xs ys (by simpa using h)]
def Out.fm (mm : List Bool) : Out → FM
  | .nx ρ => .ok (.val .non) (sel mm ρ)
  | .rt s ρ => .ok s (sel mm ρ)
  | .er e ρ => .er e (sel mm ρ)
  | _ => .stuck
@[simp] def startM (N : Nat) (ss : List Slot) : Env := ss ++ List.replicate (N - ss.length) .unb
def runM (N : Nat) (mm : List Bool) (m : S) (ss : List Slot) : FM := if ss.length = mm.length then (m (startM N ss)).fm mm else .stuck
section
variable {P : Program} {w : World} {K : PySem.W.Frag} {mg : Str → Option Value} {base : Heap} {x qual : Str} {params : Arguments} {body : List Stmt} {scope : Scope} {dvs : List V} {kws : List (Str × V)} {f : Addr} {fd : FuncData} {N ps : List Str} {k : Nat}
theorem fn_mut {m : S} {mm : List Bool} {J : List Nat} (F : FunD K x qual params body scope dvs kws f fd) (Sc : FnScope N ps scope) (hmm : mm.length = ps.length) (hJ : ∀ j, mm[j]? = some true → j ∈ J)
    (hb : ∀ (cdv : Value) (A : Around) (outer : List PySem.Env) (s : Shared) (H : Hp) (E : XK) (Wx : WX), Rm k (A.deeper (envOfC qual scope s.heap.objs.size f cdv)) →
      L2N.Takes (cxOf (L2N.CX P w) P w K mg base N qual scope f cdv A outer s H E) Wx →
      PassesOwn (model P w) (cxOf (L2N.CX P w) P w K mg base N qual scope f cdv A outer s H E).A (cxOf (L2N.CX P w) P w K mg base N qual scope f cdv A outer s H E).env (cxOf (L2N.CX P w) P w K mg base N qual scope f cdv A outer s H E).xe →
      PSL (cxOf (L2N.CX P w) P w K mg base N qual scope f cdv A outer s H E) Wx J body m) :
    FnG P w K mg base (k + 1) f fd ps (spM K mm (runM N.length mm m)) := by
  refine FnG.of_body F Sc (fun vs H Q E ⟨L, W, ss, h, _⟩ => h.trans hmm) fun cdv A outer s H vs Q E hr h => ?_
  obtain ⟨L, W, ss, hl, rl0, p⟩ := h
  refine ⟨_, hb cdv A outer s H E (fun c d _ H' => E c d H') hr (L2N.takes_of rfl rfl rfl rfl) (passes_of rfl), ?_⟩
  unfold runM at p
  have hvs : vs.length = ss.length := by simpa using rl0.rel.length
  rw [if_pos (by rw [← hvs]; exact hl)] at p
  have hs0 : L2.start N vs = vs.map some ++ List.replicate (N.length - ss.length) Option.none := by unfold L2.start; rw [hvs]
  have rl : Rl K L W (startM N.length ss) (L2.start N vs) H := by
    rw [hs0]
    have e : ∀ n, RelE K (hide H (W ++ L)) H [] (List.replicate n Option.none) (List.replicate n Slot.unb) := fun n => by
      induction n with
      | zero => exact .nil
      | succ n ih => exact .unb ih
    refine ⟨?_, rl0.nd, rl0.dj, rl0.lk⟩
    have := rl0.rel.app (e (N.length - ss.length))
    rwa [List.append_nil] at this
  refine ⟨startM N.length ss, L, W, rl, ?_⟩
  -- what the kept slots hold at the end
  have fin : ∀ {σ' : L2.St}, Ag J (L2.start N vs) σ' → sel mm σ' = (sel mm vs).map some := fun {σ'} ag => by
    have z := sel_ag (σ0 := L2.start N vs) (σ := σ') mm 0 (fun j hj => by rw [Nat.zero_add]; exact ag.2 j (hJ j hj)) ag.1
    rw [List.drop_zero, List.drop_zero] at z
    rw [z, hs0, sel_append _ _ _ (by rw [List.length_map]; omega), sel_map]
  revert p
  cases m (startM N.length ss) with
  | nx ρ' =>
    intro p σ' W' H' ag st rl'
    obtain ⟨W2, st2, rl2⟩ := rl'.sel mm
    rw [fin ag] at rl2
    obtain ⟨W3, st3, rl3⟩ := (rl2.push (d := .non) .non).rot
    exact p .non W3 H' ((st.trans st2).trans st3) rl3
  | bk ρ' => exact fun p => p.elim
  | ct ρ' => exact fun p => p.elim
  | rt s ρ' =>
    intro p v σ' W' H' ag st rl'
    obtain ⟨W2, st2, rl2⟩ := rl'.sel (true :: mm)
    have rl2 : Rl K L W2 (s :: sel mm ρ') (some v :: sel mm σ') H' := rl2
    rw [fin ag] at rl2
    obtain ⟨W3, st3, rl3⟩ := rl2.rot
    exact p v W3 H' ((st.trans st2).trans st3) rl3
  | er e ρ' =>
    intro p c dd σ' W' H' ag st rl' er
    obtain ⟨W2, st2, rl2⟩ := rl'.sel mm
    rw [fin ag] at rl2
    exact p c dd W2 H' (st.trans st2) rl2 (er.mono st2.ex)
  | stuck => exact fun p => p.elim
end
def Slot.isUnb : Slot → Bool
  | .unb => true
  | _ => false
@[simp] theorem isUnb_unb : Slot.unb.isUnb = true := rfl
@[simp] theorem isUnb_val {d : D} : (Slot.val d).isUnb = false := rfl
@[simp] theorem isUnb_ownL {ss : List Slot} : (Slot.ownL ss).isUnb = false := rfl
@[simp] theorem isUnb_ownD {t : Bool} {ks vs : List D} : (Slot.ownD t ks vs).isUnb = false := rfl
@[simp] theorem isUnb_ownI {c : Str} {ns : List Str} {ss : List Slot} : (Slot.ownI c ns ss).isUnb = false := rfl
theorem Slot.bound {s : Slot} (h : ¬ s.isUnb = true) : s ≠ .unb := fun z => by subst z; exact h rfl
def mkArgs : List (Option Nat) → List D → Env → Option (List Slot × Env)
  | [], [], ρ => some ([], ρ)
  | none :: sp, d :: ds, ρ => (mkArgs sp ds ρ).map fun p => (.val d :: p.1, p.2)
  | some i :: sp, ds, ρ => match mkArgs sp ds ρ with
    | some (ss, ρ') => (match ρ'[i]? with
      | some s => if s.isUnb then none else some (s :: ss, ρ'.set i .unb)
      | none => none)
    | none => none
  | _, _, _ => none
def putAll : List (Option Nat) → List Slot → Env → Env
  | none :: sp, ms, ρ => putAll sp ms ρ
  | some i :: sp, m :: ms, ρ => putAll sp ms (ρ.set i m)
  | _, _, ρ => ρ
inductive AmR (K : PySem.W.Frag) (G : Hp) (σ : L2.St) : List (Option Nat) → List V → List D → Prop
  | nil : AmR K G σ [] [] []
  | val {v : V} {d : D} {sp : List (Option Nat)} {vs : List V} {ds : List D} (h : Rep K G v d) (r : AmR K G σ sp vs ds) : AmR K G σ (none :: sp) (v :: vs) (d :: ds)
  | own {v : V} {i : Nat} {sp : List (Option Nat)} {vs : List V} {ds : List D} (h : σ[i]? = some (some v)) (r : AmR K G σ sp vs ds) : AmR K G σ (some i :: sp) (v :: vs) ds
theorem AmR.mono {K : PySem.W.Frag} {G G' : Hp} {σ : L2.St} (e : Ex G G') : ∀ {sp : List (Option Nat)} {vs : List V} {ds : List D}, AmR K G σ sp vs ds → AmR K G' σ sp vs ds
  | _, _, _, .nil => .nil
  | _, _, _, .val h r => .val (h.mono e) (r.mono e)
  | _, _, _, .own h r => .own h (r.mono e)
def PostM (K : PySem.W.Frag) (Wx : WX) (σ : L2.St) (sp : List (Option Nat)) (L W : List Addr) (H : Hp) (Q : List V → Hp → Prop) : Res (List D) → Prop
  | .ok ds ρ' => ∀ vs W' H', Stp L W H W' H' → Rl K L W' ρ' σ H' → AmR K (hide H' (W' ++ L)) σ sp vs ds → Q vs H'
  | .er e ρ' => ∀ c dd W' H', Stp L W H W' H' → Rl K L W' ρ' σ H' → ErrRep K (hide H' (W' ++ L)) c dd e → Wx c dd σ H'
  | .stuck => False
theorem PostM.step {K : PySem.W.Frag} {Wx : WX} {σ : L2.St} {sp : List (Option Nat)} {L W W1 : List Addr} {H H1 : Hp} {Q : List V → Hp → Prop} (a : Stp L W H W1 H1) : ∀ {r : Res (List D)}, PostM K Wx σ sp L W H Q r → PostM K Wx σ sp L W1 H1 Q r
  | .ok _ _, h => fun v W' H' st rl => h v W' H' (a.trans st) rl
  | .er _ _, h => fun c dd W' H' st rl er => h c dd W' H' (a.trans st) rl er
  | .stuck, h => h
def tM (K : PySem.W.Frag) (Wx : WX) (sp : List (Option Nat)) (m : M (List D)) : L2.TA := fun σ H Q => ∃ ρ L W, Rl K L W ρ σ H ∧ PostM K Wx σ sp L W H Q (m ρ)
@[simp] def ownA (i : Nat) (mr : M (List D)) : M (List D) := fun ρ => match ρ[i]? with
  | some s => if s.isUnb then .stuck else mr ρ
  | none => .stuck
def PAm (X : Cx) (Wx : WX) (sp : List (Option Nat)) (es : List Expr) (m : M (List D)) : Prop := PA X es (tM X.K Wx sp m)
section
variable {X : Cx} {Wx : WX}
theorem pam_nil : PAm X Wx [] [] nilA := PA_imp pa_nil fun σ H Q h => by
  obtain ⟨ρ, L, W, rl, p⟩ := h
  exact p [] W H .refl rl .nil
theorem pam_val {e : Expr} {es : List Expr} {sp : List (Option Nat)} {ma : M D} {mr : M (List D)} (ha : PD X Wx e ma) (hr : PAm X Wx sp es mr) (hs : starEach (e :: es) X.env = (false, eval e X.env) :: starEach es X.env := by rfl) : PAm X Wx (none :: sp) (e :: es) (consA ma mr) := by
  refine PA_imp (pa_cons ha hr hs) fun σ H Q h => ?_
  obtain ⟨ρ, L, W, rl, p⟩ := h
  refine bd_D (T := PostM X.K Wx σ (none :: sp) L W H Q) rl p fun x dx ρ1 W1 H1 st1 rl1 q1 p => ?_
  refine ⟨ρ1, L, W1, rl1, ?_⟩
  have p := PostM.step st1 p
  revert p
  cases mr ρ1 with
  | stuck => exact id
  | er e ρ' => exact id
  | ok ds ρ' => exact fun p vs W' H' st rl q => p (x :: vs) W' H' st rl (.val (st.rep q1) q)
theorem pam_own {i : Nat} {x : Str} {pos : Pos} {es : List Expr} {sp : List (Option Nat)} {mr : M (List D)} (hr : PAm X Wx sp es mr) (hN : X.N[i]? = some x := by rfl) (hv : Vis X.env.scope x := by first | exact Or.inl rfl | exact Or.inr (Or.inl rfl) | exact Or.inr (Or.inr rfl)) (hd : (x == ("__debug__" : Str)) = false := by decide)
    (hcd : (x == ("__classdict__" : Str)) = false := by decide) (hs : starEach (.Name x pos :: es) X.env = (false, eval (.Name x pos) X.env) :: starEach es X.env := by rfl) : PAm X Wx (some i :: sp) (.Name x pos :: es) (ownA i mr) := by
  refine PA_imp (pa_cons (pe_var (i := i) hN hv hd hcd) hr hs) fun σ H Q h => ?_
  obtain ⟨ρ, L, W, rl, p⟩ := h
  have p : PostM X.K Wx σ (some i :: sp) L W H Q (match ρ[i]? with
      | some s => if s.isUnb then .stuck else mr ρ
      | none => .stuck) := p
  split at p
  · rename_i s e
    by_cases hn : s.isUnb = true
    · rw [if_pos hn] at p; exact p.elim
    rw [if_neg hn] at p
    have n := Slot.bound hn
    obtain ⟨v, A, f, B, h1, _⟩ := rl.rel.get e n
    refine ⟨v, h1, ρ, L, W, rl, ?_⟩
    revert p
    cases mr ρ with
    | stuck => exact id
    | er e ρ' => exact id
    | ok ds ρ' => exact fun p vs W' H' st rl q => p (v :: vs) W' H' st rl (.own h1 q)
  · exact p.elim
end
section
variable {K : PySem.W.Frag} {L W : List Addr} {ρ : Env} {σ : L2.St} {H : Hp}
theorem Rl.take (r : Rl K L W ρ σ H) {i : Nat} {s : Slot} {v : V} (e : ρ[i]? = some s) (n : s ≠ .unb) (hv : σ[i]? = some (some v)) : ∃ W', Stp L W H W' H ∧ Rl K L W' (s :: ρ.set i .unb) (some v :: σ) H := by
  obtain ⟨v', A, f, B, h1, h2, h3, h5, _⟩ := r.rel.upd e n
  cases hv.symm.trans h1
  have p : (f ++ (A ++ B)).Perm W := by
    rw [h2, ← List.append_assoc]
    exact List.Perm.append_right B List.perm_append_comm
  have z := r.sub (.cons h3 h5) (p.nodup_iff.mpr r.nd) (fun a ha => p.subset ha)
  exact ⟨_, z.2, z.1⟩
theorem Rl.args (r : Rl K L W ρ σ H) : ∀ {sp : List (Option Nat)} {vs : List V} {ds : List D} {ss : List Slot} {ρ' : Env}, AmR K (hide H (W ++ L)) σ sp vs ds → mkArgs sp ds ρ = some (ss, ρ') → ∃ W', Stp L W H W' H ∧ Rl K L W' (ss ++ ρ') (vs.map some ++ σ) H ∧ vs.length = ss.length
  | _, _, _, ss, ρ', .nil, e => by cases e; exact ⟨W, .refl, r, rfl⟩
  | _, _, _, ss, ρ', .val (sp := sp) (ds := ds) h q, e => by
    simp only [mkArgs, Option.map_eq_some_iff] at e
    obtain ⟨⟨ss1, ρ1⟩, e1, e2⟩ := e
    cases e2
    obtain ⟨W1, st1, r1, l1⟩ := r.args q e1
    exact ⟨W1, st1, r1.push (st1.rep h), by simp [l1]⟩
  | _, _, _, ss, ρ', .own (i := i) (sp := sp) h q, e => by
    simp only [mkArgs] at e
    split at e
    · rename_i ss1 ρ1 e1
      split at e
      · rename_i s es
        by_cases hn : s.isUnb = true
        · rw [if_pos hn] at e; cases e
        rw [if_neg hn] at e
        cases e
        obtain ⟨W1, st1, r1, l1⟩ := r.args q e1
        have n := Slot.bound hn
        obtain ⟨W2, st2, r2⟩ := r1.take (i := ss1.length + i) (s := s) (v := _) (by rw [List.getElem?_append_right (by omega)]; simpa using es) n (by
          rw [List.getElem?_append_right (by rw [List.length_map]; omega), List.length_map, l1, Nat.add_sub_cancel_left]; exact h)
        refine ⟨W2, st1.trans st2, ?_, by simp [l1]⟩
        rw [List.set_append_right _ _ (by omega), Nat.add_sub_cancel_left] at r2
        exact r2
      · cases e
    · cases e
def mvsOf : List (Option Nat) → List V → List V
  | none :: sp, _ :: vs => mvsOf sp vs
  | some _ :: sp, v :: vs => v :: mvsOf sp vs
  | _, _ => []
theorem Rl.puts : ∀ {sp : List (Option Nat)} {vs : List V} {ds : List D} {G : Hp} {ms : List Slot} {rs : Env} {rσ : L2.St} {W : List Addr} {ρ : Env}, AmR K G σ sp vs ds → rs.length = rσ.length → ms.length = (mvsOf sp vs).length → (∀ m ∈ ms, m ≠ .unb) → Rl K L W (ms ++ (rs ++ ρ)) ((mvsOf sp vs).map some ++ (rσ ++ σ)) H →
    ∃ W', Stp L W H W' H ∧ Rl K L W' (rs ++ putAll sp ms ρ) (rσ ++ σ) H
  | _, _, _, _, ms, rs, rσ, W, ρ, .nil, _, hm, _, r => by
    cases ms with
    | nil => exact ⟨W, .refl, r⟩
    | cons _ _ => cases hm
  | _, _, _, _, ms, rs, rσ, W, ρ, .val h q, hl, hm, hn, r => by
    obtain ⟨W', st, r'⟩ := Rl.puts q hl hm hn r
    exact ⟨W', st, r'⟩
  | _, _, _, _, [], rs, rσ, W, ρ, .own (i := i) h q, hl, hm, hn, r => by cases hm
  | _, _, _, _, m :: ms, rs, rσ, W, ρ, .own (i := i) (v := v) (sp := sp) (vs := vs) h q, hl, hm, hn, r => by
    have r : Rl K L W (m :: (ms ++ (rs ++ ρ))) (some v :: ((mvsOf sp vs).map some ++ (rσ ++ σ))) H := r
    have hm' : ms.length = (mvsOf sp vs).length := by simpa [mvsOf] using hm
    obtain ⟨W1, st1, r1⟩ := r.store (ms.length + (rs.length + i)) (hn m (by simp))
    rw [List.set_append_right _ _ (by omega), Nat.add_sub_cancel_left, List.set_append_right _ _ (by omega), Nat.add_sub_cancel_left] at r1
    rw [show ((mvsOf sp vs).map some ++ (rσ ++ σ)).set (ms.length + (rs.length + i)) (some v) = (mvsOf sp vs).map some ++ (rσ ++ σ) from by
      rw [List.set_append_right _ _ (by rw [List.length_map]; omega), List.length_map, hm', Nat.add_sub_cancel_left, List.set_append_right _ _ (by omega), hl, Nat.add_sub_cancel_left]
      congr 2
      apply List.ext_getElem?
      intro j
      by_cases e : i = j
      · subst e
        have : i < σ.length := (List.getElem?_eq_some_iff.mp h).1
        rw [List.getElem?_set_self this, h]
      · rw [List.getElem?_set_ne e]] at r1
    obtain ⟨W2, st2, r2⟩ := Rl.puts q hl hm' (fun x hx => hn x (by simp [hx])) r1
    exact ⟨W2, st1.trans st2, r2⟩
end
section
variable {K : PySem.W.Frag} {L W : List Addr} {ρ : Env} {σ : L2.St} {H : Hp}
theorem Rl.split {ss : Env} {us : L2.St} (r : Rl K L W (ss ++ ρ) (us ++ σ) H) (hl : us.length = ss.length) : ∃ Wc Wr, Rl K (L ++ Wr) Wc ss us H ∧
    ∀ {W' : List Addr} {H' : Hp} {ρ' : Env} {σ' : L2.St}, Stp (L ++ Wr) Wc H W' H' → Rl K (L ++ Wr) W' ρ' σ' H' → Rl K L (W' ++ Wr) (ρ' ++ ρ) (σ' ++ σ) H' ∧ Stp L W H (W' ++ Wr) H' := by
  obtain ⟨Wc, Wr, rfl, h1, h2⟩ := r.rel.split hl
  have cg : ∀ (V : List Addr) (G : Hp), hide G (V ++ (L ++ Wr)) = hide G ((V ++ Wr) ++ L) := fun V G => hide_congr fun a => by
    simp only [List.mem_append]
    constructor
    · rintro (h | h | h)
      · exact .inl (.inl h)
      · exact .inr h
      · exact .inl (.inr h)
    · rintro ((h | h) | h)
      · exact .inl h
      · exact .inr (.inr h)
      · exact .inr (.inl h)
  obtain ⟨n1, n2, n3⟩ := List.nodup_append.mp r.nd
  refine ⟨Wc, Wr, ⟨by rw [cg]; exact h1, n1, fun a ha z => ?_, fun a ha => ?_⟩, fun {W' H' ρ' σ'} st q => ?_⟩
  · rcases List.mem_append.mp ha with h | h
    · exact r.dj a h (by simp [z])
    · exact n3 a z a h rfl
  · rcases List.mem_append.mp ha with h | h
    · exact r.lk a h
    · exact h2.there a h
  · have stp : Stp L (Wc ++ Wr) H (W' ++ Wr) H' := by
      refine ⟨by rw [← cg, ← cg]; exact st.ex, fun a h => ?_, fun a h => st.lk a (by simp [h])⟩
      rcases List.mem_append.mp h with h | h
      · exact (st.new a h).imp (fun z => by simp [z]) id
      · exact .inl (by simp [h])
    refine ⟨⟨RelE.app (by rw [← cg]; exact q.rel) (h2.mono stp.ex fun a h => st.lk a (by simp [h])), ?_, ?_, fun a h => q.lk a (by simp [h])⟩, stp⟩
    · exact List.nodup_append.mpr ⟨q.nd, n2, fun a ha b hb e => by subst e; exact q.dj a (by simp [hb]) ha⟩
    · intro a ha z
      rcases List.mem_append.mp z with z | z
      · exact q.dj a (by simp [ha]) z
      · exact r.dj a ha (by simp [z])
theorem sel_mvs : ∀ (sp : List (Option Nat)) (vs : List V), sel (sp.map Option.isSome) vs = mvsOf sp vs
  | [], vs => by simp [mvsOf]
  | none :: sp, [] => by simp [mvsOf]
  | some _ :: sp, [] => by simp [mvsOf]
  | none :: sp, v :: vs => by simp [mvsOf, sel_mvs sp vs]
  | some _ :: sp, v :: vs => by simp [mvsOf, sel_mvs sp vs]
theorem AmR.length {G : Hp} : ∀ {sp : List (Option Nat)} {vs : List V} {ds : List D}, AmR K G σ sp vs ds → vs.length = sp.length
  | _, _, _, .nil => rfl
  | _, _, _, .val _ r => congrArg (· + 1) r.length
  | _, _, _, .own _ r => congrArg (· + 1) r.length
end
@[simp] def FM.res (sp : List (Option Nat)) (ρ : Env) : FM → Res Slot
  | .ok s ms => if ms.all (fun m => !m.isUnb) ∧ ms.length = (sp.filter Option.isSome).length then .ok s (putAll sp ms ρ) else .stuck
  | .er e ms => if ms.all (fun m => !m.isUnb) ∧ ms.length = (sp.filter Option.isSome).length then .er e (putAll sp ms ρ) else .stuck
  | .stuck => .stuck
@[simp] def callMM (F : List Slot → FM) (sp : List (Option Nat)) (ma : M (List D)) : M Slot := fun ρ => (ma ρ).bd fun ds ρ1 => match mkArgs sp ds ρ1 with
  | some (ss, ρ2) => (F ss).res sp ρ2
  | none => .stuck
theorem mvsOf_len : ∀ (sp : List (Option Nat)) (vs : List V), vs.length = sp.length → (mvsOf sp vs).length = (sp.filter Option.isSome).length
  | [], [], _ => rfl
  | [], _ :: _, h => by cases h
  | _ :: _, [], h => by cases h
  | none :: sp, v :: vs, h => by simpa [mvsOf] using mvsOf_len sp vs (by simpa using h)
  | some _ :: sp, v :: vs, h => by simpa [mvsOf] using mvsOf_len sp vs (by simpa using h)
section
variable {X : Cx} {Wx : WX} {K : PySem.W.Frag} {L W : List Addr} {ρ : Env} {σ : L2.St} {H : Hp} {Q : VK}
theorem spM_use {F : List Slot → FM} {sp : List (Option Nat)} {vs : List V} {ds : List D} {ss : List Slot} {ρ2 : Env} (r : Rl K L W ρ σ H) (q : AmR K (hide H (W ++ L)) σ sp vs ds) (e : mkArgs sp ds ρ = some (ss, ρ2)) (p : Post K Wx σ L W H Q ((F ss).res sp ρ2)) :
    spM K (sp.map Option.isSome) F vs H Q fun c d H' => Wx c d σ H' := by
  obtain ⟨W1, st1, r1, l1⟩ := r.args q e
  obtain ⟨Wc, Wr, rc, jn⟩ := r1.split (by simpa using l1)
  refine ⟨L ++ Wr, Wc, ss, by rw [List.length_map]; exact q.length, rc, ?_⟩
  rw [sel_mvs]
  have hlen := mvsOf_len sp vs q.length
  revert p
  cases F ss with
  | stuck => exact fun p => p
  | ok s ms =>
    intro p v W' H' st rl
    by_cases c : ms.all (fun m => !m.isUnb) ∧ ms.length = (sp.filter Option.isSome).length
    · have p : Post K Wx σ L W H Q (if ms.all (fun m => !m.isUnb) ∧ ms.length = (sp.filter Option.isSome).length then .ok s (putAll sp ms ρ2) else .stuck) := p
      rw [if_pos c] at p
      obtain ⟨j1, j2⟩ := jn st rl
      rw [List.append_assoc, List.append_assoc] at j1
      obtain ⟨W3, st3, r3⟩ := Rl.puts (rs := [s]) (rσ := [some v]) q rfl (c.2.trans hlen.symm) (fun m hm z => by
        have := List.all_eq_true.mp c.1 m hm
        subst z; simp at this) j1
      exact p v W3 H' ((st1.trans j2).trans st3) r3
    · have p : Post K Wx σ L W H Q (if ms.all (fun m => !m.isUnb) ∧ ms.length = (sp.filter Option.isSome).length then .ok s (putAll sp ms ρ2) else .stuck) := p
      rw [if_neg c] at p
      exact p.elim
  | er e ms =>
    intro p cl dd W' H' st rl er
    by_cases c : ms.all (fun m => !m.isUnb) ∧ ms.length = (sp.filter Option.isSome).length
    · have p : Post K Wx σ L W H Q (if ms.all (fun m => !m.isUnb) ∧ ms.length = (sp.filter Option.isSome).length then .er e (putAll sp ms ρ2) else .stuck) := p
      rw [if_pos c] at p
      obtain ⟨j1, j2⟩ := jn st rl
      obtain ⟨W3, st3, r3⟩ := Rl.puts (rs := []) (rσ := []) q rfl (c.2.trans hlen.symm) (fun m hm z => by
        have := List.all_eq_true.mp c.1 m hm
        subst z; simp at this) j1
      refine p cl dd W3 H' ((st1.trans j2).trans st3) r3 (er.mono ?_)
      refine Ex.trans ?_ st3.ex
      exact hide_mono (Ex.refl _) fun a h => .inl (by
        simp only [List.mem_append] at h ⊢
        rcases h with (h | h) | h
        · exact .inl h
        · exact .inr (.inr h)
        · exact .inr (.inl h))
    · have p : Post K Wx σ L W H Q (if ms.all (fun m => !m.isUnb) ∧ ms.length = (sp.filter Option.isSome).length then .er e (putAll sp ms ρ2) else .stuck) := p
      rw [if_neg c] at p
      exact p.elim
theorem px_callM {k : Nat} {f : Addr} {fd : FuncData} {ps : List Str} {F : List Slot → FM} {x : Str} {p pos : Pos} {e : Expr} {es : List Expr} {sp : List (Option Nat)} {ma : M (List D)} {mm : List Bool} (G : FnG X.prog X.w X.K X.mg X.base k f fd ps (spM X.K mm F)) (hr : Rm k X.A) (tk : L2N.Takes X Wx)
    (hm : X.mg x = some (.ref f)) (hk : PySem.W.keepIn X.K (.ref f) = true) (ha : PAm X Wx sp (e :: es) ma) (hb2 : Binds X.K fd ps []) (hsp : sp.map Option.isSome = mm := by rfl) (hg : Gl X x := by rfl) (hdb : (x == ("__debug__" : Str)) = false := by decide) (he : starEach (e :: es) X.env = (false, eval e X.env) :: starEach es X.env := by rfl) (hpl : (backTo pos (starEach es X.env)).any (·.1) = false := by rfl) :
    PX X Wx (.Call (.Name x p) (e :: es) [] pos) (callMM F sp ma) := by
  subst hsp
  refine ⟨fun pins s σ H Q I h => ?_⟩
  obtain ⟨ρ, L, W, rl, p⟩ := h
  refine wpAny_Call_Name_kw (ld_glob I hg hm ?_ hdb)
  have h : tM X.K Wx sp ma σ H (fun vs H1 => ∃ ds ρ1 W1, Rl X.K L W1 ρ1 σ H1 ∧ AmR X.K (hide H1 (W1 ++ L)) σ sp vs ds ∧ Post X.K Wx σ L W1 H1 Q (match mkArgs sp ds ρ1 with
      | some (ss, ρ2) => (F ss).res sp ρ2
      | none => .stuck)) := by
    refine ⟨ρ, L, W, rl, ?_⟩
    revert p
    show Post X.K Wx σ L W H Q ((ma ρ).bd fun ds ρ1 => _) → _
    cases ma ρ with
    | stuck => exact id
    | er e ρ' => exact id
    | ok ds ρ' => exact fun p vs W' H' st rl q => ⟨ds, ρ', W', rl, q, p.step st⟩
  refine PySem.W.callWith_K (h₀ := X.base) I.ok.mod.kin hk (thn (ha.run pos pins s σ H _ I h) fun us s1 ⟨vs, H1, I1, r, ds, ρ1, W1, rl1, q1, p⟩ => ⟨I1.kIn, ?_⟩) he hpl
  split at p
  · rename_i ss ρ2 e2
    have hs := spM_use rl1 q1 e2 p
    have hl : (us ++ []).length = ps.length := by rw [List.append_nil, ← r.length]; exact G.len _ _ _ _ hs
    refine wpAny_call (codeAny_mono (G.run X.A X.stack s1 H1 ⟨us, []⟩ us vs Q _ hr I1.env0 (by simpa using hb2 s1 us I1.kIn hl) r hs) fun r s' hq => ?_)
    cases r with
    | error e => exact L2N.passAt tk σ pins H1 s1 e s' I1 hq
    | ok fl =>
      cases fl with
      | ret u => exact I1.after hq
      | next => exact hq.elim
      | brk => exact hq.elim
      | cont => exact hq.elim
  · exact p.elim
end
@[simp] def mvM (i : Nat) : M Slot := fun ρ => match ρ[i]? with
  | some s => if s.isUnb then .stuck else .ok s (ρ.set i .unb)
  | none => .stuck
theorem takes0 {X : Cx} : L2N.Takes X WX0 := fun _ _ ⟨_, _, _, _, _, _, _, _, _, _, _, _, _, _, _, _, w⟩ => w.elim
end P
namespace P
open PySem PySem.Spec PyProof.Rows L2
def reprD : List D → Option D
  | [d] => match toP d with
    | some p => if p.showable && decide (p.depth ≤ 40) && decide (p.shown.length ≤ 1000000) && !p.hasDict then some (.str p.shown) else none
    | none => none
  | _ => none
section
variable {X : Cx}
theorem call_reprG (hg : X.A.guards = some []) (hu : X.A.units + 100 < cLine) : CallR X (.builtin "repr") (fun xs H Q => ∃ x p, xs = [x] ∧ Dp X.K H x p ∧ p.showable = true ∧ p.depth ≤ 40 ∧ p.shown.length ≤ sizeLine ∧ p.hasDict = false ∧ Q (.str p.shown) H) := by
  intro pins s σ H xs us Q I r h
  obtain ⟨x, p, rfl, hd, h1, h2, h3, h4, q⟩ := h
  obtain ⟨u, rfl, ru⟩ := vals1 r
  cases hd with
  | non =>
    obtain rfl : u = Value.none := ru
    exact _root_.PySem.P.repr_of_none ⟨.str _, H, I.tok _, ⟨_, rfl⟩, q⟩
  | bl b =>
    obtain rfl : u = Value.bool b := ru
    exact _root_.PySem.P.repr_of_bool ⟨.str _, H, I.tok _, ⟨_, rfl⟩, q⟩
  | int i =>
    obtain ⟨t, rfl⟩ := (show ∃ t, u = Value.int i t from ru)
    exact _root_.PySem.P.repr_of_int (of_decide_eq_true h1) ⟨.str _, H, I.tok _, ⟨_, rfl⟩, q⟩
  | str y =>
    obtain ⟨t, rfl⟩ := (show ∃ t, u = Value.str y t from ru)
    exact _root_.PySem.P.repr_of_str ⟨.str _, H, I.tok _, ⟨_, rfl⟩, q⟩ h3
  | lst hq hr =>
    obtain ⟨as, rd⟩ := Dp.reads I _ _ _ (.lst hq hr) ru
    obtain rfl : u = Value.ref _ := ru
    exact repr_of_reads' rd h1 (PyData.noDict_hsm h4) hg (by omega) (fun _ _ e => e) (fun h' u tk hk => ⟨.str _, H, I.kept hk, ⟨_, rfl⟩, q⟩) h3
  | tup hq hr =>
    obtain ⟨as, rd⟩ := Dp.reads I _ _ _ (.tup hq hr) ru
    obtain rfl : u = Value.ref _ := ru
    exact repr_of_reads' rd h1 (PyData.noDict_hsm h4) hg (by omega) (fun _ _ e => e) (fun h' u tk hk => ⟨.str _, H, I.kept hk, ⟨_, rfl⟩, q⟩) h3
theorem cd_repr (hg : X.A.guards = some []) (hu : X.A.units + 100 < cLine) : CallD X (.builtin "repr") reprD := ⟨_, call_reprG hg hu, fun S H xs ds d Q al r e k => by
  unfold reprD at e
  split at e
  · split at e
    · rename_i p hp
      split at e
      · rename_i hh
        cases e
        obtain ⟨x, rfl, q⟩ := r.one
        simp only [Bool.and_eq_true, decide_eq_true_eq, Bool.not_eq_true'] at hh
        exact ⟨x, p, rfl, dp_ex hide_ex (q.dp hp), hh.1.1.1, hh.1.1.2, big_line hh.1.2, hh.2, k _ H (Ex.refl H) (.str _)⟩
      · cases e
    · cases e
  · cases e⟩
end
theorem jOk {mm : List Bool} {J : List Nat} (h : (List.range mm.length).all (fun j => !(mm[j]? == some true) || J.contains j) = true) : ∀ j, mm[j]? = some true → j ∈ J := fun j e => by
  have l : j < mm.length := (List.getElem?_eq_some_iff.mp e).1
  have z := List.all_eq_true.mp h j (List.mem_range.mpr l)
  simpa [e] using z
end P
namespace P
open PySem PySem.Spec PyProof.Rows L2
section
variable {i j : Int} {x y : Str} {ds es : List D}
@[simp] theorem addD_i : addD (.int i) (.int j) = some (.int (i + j)) := rfl
@[simp] theorem addD_t : addD (.tup ds) (.tup es) = if ds.length + es.length ≤ 1000000 then some (.tup (ds ++ es)) else none := rfl
@[simp] theorem addD_l : addD (.lst ds) (.lst es) = if ds.length + es.length ≤ 1000000 then some (.lst (ds ++ es)) else none := rfl
@[simp] theorem addD_s : addD (.str x) (.str y) = if x.length + y.length ≤ 1000000 then some (.str (x ++ y)) else none := rfl
@[simp] theorem modD_i (h : 0 < j) : modD (.int i) (.int j) = some (.int (i % j)) := if_pos h
theorem big8000 (h : j < 18446744073709551616) (h0 : 0 < j) : j.natAbs < 2 ^ 8000 := Nat.lt_of_lt_of_le (by omega : j.natAbs < 2 ^ 64) (Nat.pow_le_pow_right (by decide) (by decide))
@[simp] theorem fdivD_i (h : 0 < j) (h2 : j < 18446744073709551616) : fdivD (.int i) (.int j) = some (.int (i / j)) := if_pos ⟨h, big8000 h2 h⟩
theorem mulD_ok (h : mulOk i j = true) : mulD (.int i) (.int j) = some (.int (i * j)) := by simp [mulD, mulI, h]
@[simp] theorem mulD_l (h1 : -9223372036854775808 < i) (h2 : i < 9223372036854775808) : mulD (.int i) (.int j) = some (.int (i * j)) := mulD_ok (by
  have : i.natAbs < 2 ^ 63 := by omega
  simp [mulOk, this])
@[simp] theorem mulD_r (h1 : -9223372036854775808 < j) (h2 : j < 9223372036854775808) : mulD (.int i) (.int j) = some (.int (i * j)) := mulD_ok (by
  have : j.natAbs < 2 ^ 63 := by omega
  simp [mulOk, this])
@[simp] theorem mulD_lst : mulD (.lst ds) (.int j) = if j < 1000000 ∧ -1000000 < j ∧ ds.length * j.toNat ≤ 1000000 then some (.lst (List.replicate j.toNat ds).flatten) else none := by
  simp [mulD, mulI, mulT, mulL]
theorem log2_lt {n k : Nat} (h : n < 2 ^ k) (hk : 0 < k) : n.log2 < k := by
  by_cases h0 : n = 0
  · subst h0; simpa using hk
  · exact (Nat.log2_lt h0).mpr h
theorem powD_k (k : Nat) (h0 : 0 ≤ j) (hk : 0 < k) (hi : i.natAbs < 2 ^ k) (hj : k * j.toNat ≤ 1000000) : powD (.int i) (.int j) = some (.int (i ^ j.toNat)) := by
  have := log2_lt hi hk
  have : (i.natAbs.log2 + 1) * j.toNat ≤ k * j.toNat := Nat.mul_le_mul_right _ this
  exact if_pos ⟨h0, by omega⟩
@[simp] theorem eqD_i : eqD (.int i) (.int j) = some (.bl (decide (i = j))) := rfl
@[simp] theorem eqD_s : eqD (.str x) (.str y) = some (.bl (decide (x = y))) := rfl
@[simp] theorem eqD_b {a b : Bool} : eqD (.bl a) (.bl b) = some (.bl (decide (a = b))) := rfl
@[simp] theorem neD_i : neD (.int i) (.int j) = some (.bl (!decide (i = j))) := rfl
@[simp] theorem neD_s : neD (.str x) (.str y) = some (.bl (!decide (x = y))) := rfl
@[simp] theorem neD_b {a b : Bool} : neD (.bl a) (.bl b) = some (.bl (!decide (a = b))) := rfl
@[simp] theorem max2D_i : max2D [.int i, .int j] = some (.int (max i j)) := by
  show some (D.int (if j > i then j else i)) = _
  rw [show (if j > i then j else i) = max i j from by split <;> omega]
@[simp] theorem min2D_i : min2D [.int i, .int j] = some (.int (min i j)) := by
  show some (D.int (if j < i then j else i)) = _
  rw [show (if j < i then j else i) = min i j from by split <;> omega]
@[simp] theorem absD_i : absD [.int i] = some (.int i.natAbs) := by
  show some (D.int (if i < 0 then -i else i)) = _
  rw [show (if i < 0 then -i else i) = (i.natAbs : Int) from by split <;> omega]
@[simp] theorem lenD_t : lenD [.tup ds] = some (.int ds.length) := rfl
@[simp] theorem lenD_l : lenD [.lst ds] = some (.int ds.length) := rfl
@[simp] theorem lenD_c {ns : List Int} : lenD [.scr ns] = some (.int ns.length) := rfl
@[simp] theorem intD_i : intD [.int i] = some (.int i) := rfl
@[simp] theorem intD_b {b : Bool} : intD [.bl b] = some (.int (if b then 1 else 0)) := rfl
@[simp] theorem tupleD_l : tupleD [.lst ds] = some (.tup ds) := rfl
@[simp] theorem tupleD_t : tupleD [.tup ds] = some (.tup ds) := rfl
@[simp] theorem listD_l : listD [.lst ds] = some ds := rfl
@[simp] theorem listD_t : listD [.tup ds] = some ds := rfl
@[simp] theorem itL_l : itL (.lst ds) = some ds := rfl
@[simp] theorem itL_c {ns : List Int} : itL (.scr ns) = some (ns.map .int) := rfl
@[simp] theorem itT_t : itT (.tup ds) = some ds := rfl
theorem ixN_nn {n : Nat} (h0 : 0 ≤ i) (h : i < n) : ixN n i = some i.toNat := by
  unfold ixN
  simp [h0]
  omega
@[simp] theorem ixD_t (h0 : 0 ≤ i) (h : i < ds.length) : ixD (.tup ds) (.int i) = ds[i.toNat]? := by
  show atI ds i = _
  unfold atI; rw [ixN_nn h0 h]; rfl
@[simp] theorem ixD_l (h0 : 0 ≤ i) (h : i < ds.length) : ixD (.lst ds) (.int i) = ds[i.toNat]? := by
  show atI ds i = _
  unfold atI; rw [ixN_nn h0 h]; rfl
@[simp] theorem atI_nn (h0 : 0 ≤ i) (h : i < ds.length) : atI ds i = ds[i.toNat]? := by
  unfold atI; rw [ixN_nn h0 h]; rfl
@[simp] theorem ixD_c {ns : List Int} (h0 : 0 ≤ i) (h : i < ns.length) : ixD (.scr ns) (.int i) = ns[i.toNat]?.map .int := by
  show (atI ns i).map D.int = _
  unfold atI; rw [ixN_nn h0 h]; rfl
@[simp] theorem rng1_i (h : -1000000000 ≤ i) (h2 : i ≤ 1000000000) : rng1 [.int i] = some (rngL 0 i.toNat) := if_pos (by omega)
@[simp] theorem rng2_i (h : -1000000000 ≤ i) (h2 : i ≤ 1000000000) (h3 : -1000000000 ≤ j) (h4 : j ≤ 1000000000) : rng2 [.int i, .int j] = some (rngL i (j - i).toNat) := if_pos (by omega)
@[simp] theorem sumD_l {ns : List Int} : sumD [.lst (ns.map .int)] = some (.int ns.sum) := by simp [sumD, asInts_map]
@[simp] theorem allD_l {bs : List Bool} : allD [.lst (bs.map .bl)] = some (.bl (bs.all id)) := by simp [allD, asBls_map]
@[simp] theorem anyD_l {bs : List Bool} : anyD [.lst (bs.map .bl)] = some (.bl (bs.any id)) := by simp [anyD, asBls_map]
@[simp] theorem fz_val {d : D} : (Slot.val d).fz = some d := rfl
@[simp] theorem fz_own : (Slot.ownL (ds.map .val)).fz = some (.lst ds) := by simp [Slot.fz, fzs_vals]
@[simp] theorem fzs_nil : fzs [] = some [] := rfl
@[simp] theorem fzs_cons {s : Slot} {r : List Slot} : fzs (s :: r) = s.fz.bind fun d => (fzs r).map (d :: ·) := by
  simp only [fzs]
  cases s.fz <;> cases fzs r <;> rfl
@[simp] theorem fzs_map : fzs (ds.map .val) = some ds := fzs_vals ds
@[simp] theorem pick_nil {α : Type} {us : List α} : pick [] us = [] := rfl
@[simp] theorem pick_cons {α : Type} {us : List α} {k : Nat} {r : List Nat} : pick (k :: r) us = match us[k]? with
    | some u => u :: pick r us
    | none => pick r us := by
  unfold pick
  rw [List.filterMap_cons]
  cases us[k]? <;> rfl
@[simp] theorem fz_ownC {s : Slot} {r : List Slot} : (Slot.ownL (s :: r)).fz = (fzs (s :: r)).map .lst := rfl
@[simp] theorem fz_own0 : (Slot.ownL []).fz = some (.lst []) := rfl
@[simp] theorem getL_z {ρ : Env} {ss : List Slot} : getL (.ownL ss :: ρ) 0 = valsOf ss := rfl
@[simp] theorem getL_s {ρ : Env} {s : Slot} {n : Nat} : getL (s :: ρ) (n + 1) = getL ρ n := rfl
@[simp] theorem valsOf_nil : valsOf [] = some [] := rfl
@[simp] theorem valsOf_cons {d : D} {r : List Slot} : valsOf (.val d :: r) = (valsOf r).map (d :: ·) := rfl
@[simp] theorem rngL_len {n : Nat} : (rngL i n).length = n := by simp [rngL]
end
theorem forL_inv {b : D → Env → Option Env} {body : S} (ds : List D) (I : Nat → Env → Prop) (h : ∀ i d ρ, ds[i]? = some d → I i ρ → ∃ ρ1 ρ2, b d ρ = some ρ1 ∧ body ρ1 = .nx ρ2 ∧ I (i + 1) ρ2) (ρ : Env) (h0 : I 0 ρ) : ∃ ρ', forL b body ds ρ = .nx ρ' ∧ I ds.length ρ' := by
  suffices g : ∀ (es : List D) (i : Nat) (ρ : Env), ds.drop i = es → i ≤ ds.length → I i ρ → ∃ ρ', forL b body es ρ = .nx ρ' ∧ I ds.length ρ' from g ds 0 ρ rfl (Nat.zero_le _) h0
  intro es
  induction es with
  | nil =>
    intro i ρ e hi hI
    have : ds.length ≤ i := List.drop_eq_nil_iff.mp e
    have : i = ds.length := by omega
    subst this
    exact ⟨ρ, rfl, hI⟩
  | cons d es ih =>
    intro i ρ e hi hI
    have hl : i < ds.length := by
      apply Classical.byContradiction
      intro z
      rw [List.drop_eq_nil_of_le (by omega)] at e
      cases e
    rw [List.drop_eq_getElem_cons hl] at e
    injection e with e1 e2
    obtain ⟨ρ1, ρ2, h1, h2, h3⟩ := h i d ρ (by rw [List.getElem?_eq_getElem hl, e1]) hI
    rw [forL_cons, h1]
    show ∃ ρ', lpO (forL b body es) (body ρ1) = .nx ρ' ∧ _
    rw [h2]
    exact ih (i + 1) ρ2 e2 hl h3
mutual
def rK : D → Bool
  | .non | .bl _ | .str _ => true
  | .int i => decide (i.natAbs.log2 < 1920)
  | .tup ds | .lst ds => rKs ds
  | _ => false
def rKs : List D → Bool
  | [] => true
  | d :: r => rK d && rKs r
end
mutual
def rN : D → Nat
  | .non => 4
  | .bl _ => 5
  | .int _ => 1921
  | .str x => (reprText x).length
  | .tup ds => rNs ds + 4
  | .lst ds => rNs ds + 4
  | _ => 0
def rNs : List D → Nat
  | [] => 0
  | d :: r => rN d + 2 + rNs r
end
mutual
def rD : D → Nat
  | .tup ds | .lst ds => rDs ds + 1
  | _ => 0
def rDs : List D → Nat
  | [] => 0
  | d :: r => max (rD d) (rDs r)
end
theorem listText_len (ts : List Str) : (listText ts).length ≤ piled ts + 4 := by
  cases ts with
  | nil => decide +kernel
  | cons t r =>
    have h := textFrom_length_pos r 1 (("[" : Str) ++ (if (0 : Nat) > 0 then ", " else "" : String) ++ t) (Nat.succ_pos 0)
    have e : ((("[" : Str) ++ (if (0 : Nat) > 0 then ", " else "" : String) ++ t)).length = 1 + t.length := by
      rw [strLen_append, strLen_append]; rfl
    have hX : (listText (t :: r)).length = (textFrom 0 "[" (t :: r)).length + 1 := by
      show (textFrom 0 "[" (t :: r) ++ "]").length = _
      rw [strLen_append]; rfl
    have hY : (textFrom 0 "[" (t :: r)).length = (textFrom 1 (("[" : Str) ++ (if (0 : Nat) > 0 then ", " else "" : String) ++ t) r).length := rfl
    rw [hX, hY, h, e, piled_cons]; omega
theorem tupleText_len (ts : List Str) : (tupleText ts).length ≤ piled ts + 4 := by
  unfold tupleText
  rw [strLen_append, strLen_append]
  have e1 : ((("(" : String) : Str)).length = 1 := rfl
  have e3 : (((if ts.length == 1 then ",)" else ")" : String) : Str)).length ≤ 2 := by split <;> decide
  rw [e1]
  by_cases h : ts = []
  · subst h; decide +kernel
  · have := join_length_add ts h
    omega
mutual
theorem r_of : ∀ (d : D), rK d = true → ∃ p, toP d = some p ∧ p.showable = true ∧ p.hasDict = false ∧ p.depth ≤ rD d ∧ p.shown.length ≤ rN d
  | .non, _ => ⟨_, rfl, rfl, rfl, by simp [PyData.depth], by decide +kernel⟩
  | .bl b, _ => ⟨_, rfl, rfl, rfl, by simp [PyData.depth], by cases b <;> decide +kernel⟩
  | .int i, h => ⟨_, rfl, by simpa [rK, PyData.showable] using h, rfl, by simp [PyData.depth], by
    have := int_text_len_1921 (of_decide_eq_true h)
    simpa [PyData.shown, rN] using this⟩
  | .str x, _ => ⟨_, rfl, rfl, rfl, by simp [PyData.depth], by simp [PyData.shown, rN]⟩
  | .tup ds, h => by
    obtain ⟨ps, h1, h2, h3, h4, h5⟩ := rs_of ds (by simpa [rK] using h)
    refine ⟨.tuple ps, by simp [toP, h1], by simpa [PyData.showable] using h2, by simpa [PyData.hasDict] using h3, by simp [PyData.depth, rD]; exact h4, ?_⟩
    simp only [PyData.shown, rN]
    exact Nat.le_trans (tupleText_len _) (by omega)
  | .lst ds, h => by
    obtain ⟨ps, h1, h2, h3, h4, h5⟩ := rs_of ds (by simpa [rK] using h)
    refine ⟨.list ps, by simp [toP, h1], by simpa [PyData.showable] using h2, by simpa [PyData.hasDict] using h3, by simp [PyData.depth, rD]; exact h4, ?_⟩
    simp only [PyData.shown, rN]
    exact Nat.le_trans (listText_len _) (by omega)
  | .dct _ _ _ _, h => by simp [rK] at h
  | .ins _ _ _, h => by simp [rK] at h
  | .cls _, h => by simp [rK] at h
  | .scr _, h => by simp [rK] at h
theorem rs_of : ∀ (ds : List D), rKs ds = true → ∃ ps, toPs ds = some ps ∧ PyData.showableAll ps = true ∧ PyData.hasDictAll ps = false ∧ PyData.depthAll ps ≤ rDs ds ∧ piled (PyData.shownAll ps) ≤ rNs ds
  | [], _ => ⟨[], rfl, rfl, rfl, by simp [PyData.depthAll], by simp [PyData.shownAll, piled]⟩
  | d :: r, h => by
    simp only [rKs, Bool.and_eq_true] at h
    obtain ⟨p, h1, h2, h3, h4, h5⟩ := r_of d h.1
    obtain ⟨ps, g1, g2, g3, g4, g5⟩ := rs_of r h.2
    refine ⟨p :: ps, by simp [toPs, h1, g1], by simp [PyData.showableAll, h2, g2], by simp [PyData.hasDictAll, h3, g3], by simp only [PyData.depthAll, rDs]; omega, ?_⟩
    simp only [PyData.shownAll, rNs, piled_cons]
    omega
end
@[simp] theorem ixD_l0 {a : D} {l : List D} : ixD (.lst (a :: l)) (.int 0) = some a := by
  show atI (a :: l) 0 = _
  unfold atI; rw [ixN_nn (by omega) (by simp only [List.length_cons]; omega)]; rfl
@[simp] theorem ixD_t0 {a : D} {l : List D} : ixD (.tup (a :: l)) (.int 0) = some a := ixD_l0
@[simp] theorem ixD_l1 {a b : D} {l : List D} : ixD (.lst (a :: b :: l)) (.int 1) = some b := by
  show atI (a :: b :: l) 1 = _
  unfold atI; rw [ixN_nn (by omega) (by simp only [List.length_cons]; omega)]; rfl
@[simp] theorem ixD_t1 {a b : D} {l : List D} : ixD (.tup (a :: b :: l)) (.int 1) = some b := ixD_l1
@[simp] theorem ixD_l2 {a b c : D} {l : List D} : ixD (.lst (a :: b :: c :: l)) (.int 2) = some c := by
  show atI (a :: b :: c :: l) 2 = _
  unfold atI; rw [ixN_nn (by omega) (by simp only [List.length_cons]; omega)]; rfl
@[simp] theorem ixD_t2 {a b c : D} {l : List D} : ixD (.tup (a :: b :: c :: l)) (.int 2) = some c := ixD_l2
@[simp] theorem atI_0 {a : D} {l : List D} : atI (a :: l) 0 = some a := ixD_l0
@[simp] theorem atI_1 {a b : D} {l : List D} : atI (a :: b :: l) 1 = some b := ixD_l1
@[simp] theorem atI_2 {a b c : D} {l : List D} : atI (a :: b :: c :: l) 2 = some c := ixD_l2
@[simp] theorem ixN_0 {n : Nat} : ixN (n + 1) 0 = some 0 := ixN_nn (by omega) (by omega)
@[simp] theorem ixN_1 {n : Nat} : ixN (n + 2) 1 = some 1 := ixN_nn (by omega) (by omega)
@[simp] theorem ixN_2 {n : Nat} : ixN (n + 3) 2 = some 2 := ixN_nn (by omega) (by omega)
theorem powD_10 {j : Int} (h0 : 0 ≤ j) (h : j ≤ 1000) : powD (.int 10) (.int j) = some (.int (10 ^ j.toNat)) := powD_k 4 h0 (by decide) (by decide) (by omega)
theorem powD_2 {i : Int} (h0 : -1606938044258990275541962092341162602522202993782792835301376 < i) (h : i < 1606938044258990275541962092341162602522202993782792835301376) : powD (.int i) (.int 2) = some (.int (i ^ 2)) := powD_k 200 (by decide) (by decide) (by omega) (by decide)
theorem powD_3 {i : Int} (h0 : -1606938044258990275541962092341162602522202993782792835301376 < i) (h : i < 1606938044258990275541962092341162602522202993782792835301376) : powD (.int i) (.int 3) = some (.int (i ^ 3)) := powD_k 200 (by decide) (by decide) (by omega) (by decide)
@[simp] theorem fo_none {r : List (Option Nat)} : List.filter Option.isSome (none :: r) = List.filter Option.isSome r := rfl
@[simp] theorem fo_some {r : List (Option Nat)} {i : Nat} : List.filter Option.isSome (some i :: r) = some i :: List.filter Option.isSome r := rfl
theorem seq_nx {a b : S} {ρ ρ1 : Env} (h : a ρ = .nx ρ1) : seqS a b ρ = b ρ1 := by unfold seqS; rw [h]
theorem seq_step {a b : S} {ρ ρ1 : Env} {o : Out} (h : a ρ = .nx ρ1) (h2 : b ρ1 = o) : seqS a b ρ = o := (seq_nx h).trans h2
theorem runP_rt {N n : Nat} {m : S} {ds : List D} {s : Slot} {ρ : Env} (hn : ds.length = n) (h : m (startE N ds) = .rt s ρ) : runP N n m ds = .ok s := by
  unfold runP; rw [if_pos hn, h]; rfl
end P
namespace P
open PySem PySem.Spec PyProof.Rows L2
section
variable {K : PySem.W.Frag} {L W : List Addr} {ρ : Env} {σ : L2.St} {H : Hp}
end
section
variable (K : PySem.W.Frag) (Wx : WX)
def PostB (σ : L2.St) (L W : List Addr) (H : Hp) (Q : List V → Hp → Prop) : Res (List Slot) → Prop
  | .ok ss ρ' => ∀ vs W' H', Stp L W H W' H' → vs.length = ss.length → Rl K L W' (ss ++ ρ') (vs.map some ++ σ) H' → Q vs H'
  | .er e ρ' => ∀ c dd W' H', Stp L W H W' H' → Rl K L W' ρ' σ H' → ErrRep K (hide H' (W' ++ L)) c dd e → Wx c dd σ H'
  | .stuck => False
end
@[simp] def nilB : M (List Slot) := fun ρ => .ok [] ρ
@[simp] def consB (ma : M Slot) (mr : M (List Slot)) : M (List Slot) := fun ρ => (ma ρ).bd fun s ρ1 => (mr ρ1).bd fun ss ρ2 => .ok (s :: ss) ρ2
section
variable {X : Cx} {Wx : WX} {J : List Nat}
theorem PostB.step {K : PySem.W.Frag} {σ : L2.St} {L W W1 : List Addr} {H H1 : Hp} {Q : List V → Hp → Prop} (a : Stp L W H W1 H1) : ∀ {r : Res (List Slot)}, PostB K Wx σ L W H Q r → PostB K Wx σ L W1 H1 Q r
  | .ok _ _, h => fun v W' H' st l rl => h v W' H' (a.trans st) l rl
  | .er _ _, h => fun c dd W' H' st rl er => h c dd W' H' (a.trans st) rl er
  | .stuck, h => h
@[simp] def parS2 (i j : Nat) (m : M (List Slot)) : S := fun ρ => match m ρ with
  | .ok [s, t] ρ1 => if s.isUnb ∨ t.isUnb then .stuck else .nx ((ρ1.set i s).set j t)
  | .ok _ _ => .stuck
  | .er e ρ1 => .er e ρ1
  | .stuck => .stuck
@[simp] def parS3 (i j k : Nat) (m : M (List Slot)) : S := fun ρ => match m ρ with
  | .ok [s, t, u] ρ1 => if s.isUnb ∨ t.isUnb ∨ u.isUnb then .stuck else .nx (((ρ1.set i s).set j t).set k u)
  | .ok _ _ => .stuck
  | .er e ρ1 => .er e ρ1
  | .stuck => .stuck
theorem ag_set {J : List Nat} {σ σ' : L2.St} {i : Nat} {o : Option V} (h : Ag J σ σ') (hJ : J.contains i = false) : Ag J σ (σ'.set i o) := ⟨by simp [h.1], fun j hj => by
  rw [List.getElem?_set_ne fun z => by subst z; simp [hj] at hJ]
  exact h.2 j hj⟩
@[simp] def unpS (b : D → Env → Option Env) (m : M D) : S := fun ρ => match m ρ with
  | .ok d ρ1 => (match b d ρ1 with
    | some ρ2 => .nx ρ2
    | none => .stuck)
  | .er e ρ1 => .er e ρ1
  | .stuck => .stuck
theorem pst_unp {tg e : Expr} {b : D → Env → Option Env} {js : List Nat} {m : M D} {pos : Pos} (he : PD X Wx e m) (hg : PGt X tg b js) (hJ : js.all (fun j => !J.contains j) = true := by rfl) (hs : swapsWithSole [tg] e pos.line X.env = pure false := by rfl) (hw : swappedStores [tg] e X.env = pure none := by rfl)
    (h1 : (assignEach [tg] X.env).map (·.2) = [assign tg X.env] := by rfl) : PSt X Wx J (.Assign [tg] e pos) (unpS b m) := by
  refine PS_imp (ps_asg he hg hs hw h1) fun E σ H h => ?_
  obtain ⟨ρ, L, W, rl, p⟩ := h
  have p : PostS X.K Wx J σ L W H E (Out.of ((m ρ).bd fun d ρ1 => .ok (match b d ρ1 with
      | some ρ2 => .nx ρ2
      | none => .stuck) ρ1)) := by
    revert p; show PostS X.K Wx J σ L W H E (unpS b m ρ) → _; unfold unpS; cases m ρ <;> exact id
  refine bd_D (T := fun r => PostS X.K Wx J σ L W H E (Out.of r)) rl p (fun v d ρ1 W1 H1 st1 rl1 q1 p => ?_) id (fun e ρ' h c dd W' H' st r er => h c dd σ W' H' .refl st r er)
  cases e : b d ρ1 with
  | none => simp only [e] at p; exact p.elim
  | some ρ2 =>
    simp only [e] at p
    exact ⟨ρ1, L, W1, d, rl1, q1, ρ2, e, fun σ' W' st' rl' bt => p σ' W' H1 ⟨bt.1, fun j hj => bt.2 j fun z => by
      have := List.all_eq_true.mp hJ j z
      simp [hj] at this⟩ (st1.trans st') rl'⟩
end
end P
namespace P
open PySem PySem.Spec PyProof.Rows L2
section
variable {X : Cx} {Wx : WX} {J : List Nat}
end
end P
namespace P
open PySem PySem.Spec PyProof.Rows L2
mutual
def pl : D → Bool
  | .non | .int _ => true
  | .str x => PyData.strOk x
  | .tup ds | .lst ds => pls ds
  | _ => false
def pls : List D → Bool
  | [] => true
  | d :: r => pl d && pls r
end
mutual
theorem pl_of : ∀ (d : D), pl d = true → ∃ p, toP d = some p ∧ p.canLay0 = true ∧ p.depth = rD d
  | .non, _ => ⟨_, rfl, rfl, by simp [PyData.depth, rD]⟩
  | .int i, _ => ⟨_, rfl, rfl, by simp [PyData.depth, rD]⟩
  | .str x, h => ⟨_, rfl, by simpa [pl, PyData.canLay0] using h, by simp [PyData.depth, rD]⟩
  | .tup ds, h => by
    obtain ⟨ps, h1, h2, h3⟩ := pls_of ds (by simpa [pl] using h)
    exact ⟨.tuple ps, by simp [toP, h1], by simpa [PyData.canLay0] using h2, by simp [PyData.depth, rD, h3]⟩
  | .lst ds, h => by
    obtain ⟨ps, h1, h2, h3⟩ := pls_of ds (by simpa [pl] using h)
    exact ⟨.list ps, by simp [toP, h1], by simpa [PyData.canLay0] using h2, by simp [PyData.depth, rD, h3]⟩
  | .bl _, h => by simp [pl] at h
  | .dct _ _ _ _, h => by simp [pl] at h
  | .ins _ _ _, h => by simp [pl] at h
  | .cls _, h => by simp [pl] at h
  | .scr _, h => by simp [pl] at h
theorem pls_of : ∀ (ds : List D), pls ds = true → ∃ ps, toPs ds = some ps ∧ PyData.canLayAll0 ps = true ∧ PyData.depthAll ps = rDs ds
  | [], _ => ⟨[], rfl, rfl, by simp [PyData.depthAll, rDs]⟩
  | d :: r, h => by
    simp only [pls, Bool.and_eq_true] at h
    obtain ⟨p, h1, h2, h3⟩ := pl_of d h.1
    obtain ⟨ps, g1, g2, g3⟩ := pls_of r h.2
    exact ⟨p :: ps, by simp [toPs, h1, g1], by simp [PyData.canLayAll0, h2, g2], by simp [PyData.depthAll, rDs, h3, g3]⟩
end
mutual
theorem eqv_iff : ∀ (d e : D) {p q : PyData}, pl d = true → pl e = true → toP d = some p → toP e = some q → (PyData.eqv p q = true ↔ d = e)
  | .non, e, p, q, h, g, hp, hq => by
    cases hp
    cases e with
    | non => cases hq; simp [PyData.eqv]
    | int j => cases hq; simp [PyData.eqv]
    | str y => cases hq; simp [PyData.eqv]
    | tup es => simp only [toP, Option.map_eq_some_iff] at hq; obtain ⟨qs, _, rfl⟩ := hq; simp [PyData.eqv]
    | lst es => simp only [toP, Option.map_eq_some_iff] at hq; obtain ⟨qs, _, rfl⟩ := hq; simp [PyData.eqv]
    | bl _ => simp [pl] at g
    | dct _ _ _ _ => simp [pl] at g
    | ins _ _ _ => simp [pl] at g
    | scr _ => simp [pl] at g
    | cls _ => simp [pl] at g
  | .int i, e, p, q, h, g, hp, hq => by
    cases hp
    cases e with
    | non => cases hq; simp [PyData.eqv]
    | int j => cases hq; simp [PyData.eqv]
    | str y => cases hq; simp [PyData.eqv]
    | tup es => simp only [toP, Option.map_eq_some_iff] at hq; obtain ⟨qs, _, rfl⟩ := hq; simp [PyData.eqv]
    | lst es => simp only [toP, Option.map_eq_some_iff] at hq; obtain ⟨qs, _, rfl⟩ := hq; simp [PyData.eqv]
    | bl _ => simp [pl] at g
    | dct _ _ _ _ => simp [pl] at g
    | ins _ _ _ => simp [pl] at g
    | scr _ => simp [pl] at g
    | cls _ => simp [pl] at g
  | .str x, e, p, q, h, g, hp, hq => by
    cases hp
    cases e with
    | non => cases hq; simp [PyData.eqv]
    | int j => cases hq; simp [PyData.eqv]
    | str y => cases hq; simp [PyData.eqv]
    | tup es => simp only [toP, Option.map_eq_some_iff] at hq; obtain ⟨qs, _, rfl⟩ := hq; simp [PyData.eqv]
    | lst es => simp only [toP, Option.map_eq_some_iff] at hq; obtain ⟨qs, _, rfl⟩ := hq; simp [PyData.eqv]
    | bl _ => simp [pl] at g
    | dct _ _ _ _ => simp [pl] at g
    | ins _ _ _ => simp [pl] at g
    | scr _ => simp [pl] at g
    | cls _ => simp [pl] at g
  | .tup ds, e, p, q, h, g, hp, hq => by
    simp only [toP, Option.map_eq_some_iff] at hp
    obtain ⟨ps, hp, rfl⟩ := hp
    cases e with
    | non => cases hq; simp [PyData.eqv]
    | int j => cases hq; simp [PyData.eqv]
    | str y => cases hq; simp [PyData.eqv]
    | tup es =>
      simp only [toP, Option.map_eq_some_iff] at hq
      obtain ⟨qs, hq, rfl⟩ := hq
      have := eqvs_iff ds es (by simpa [pl] using h) (by simpa [pl] using g) hp hq
      simp only [PyData.eqv, D.tup.injEq]
      exact this
    | lst es => simp only [toP, Option.map_eq_some_iff] at hq; obtain ⟨qs, _, rfl⟩ := hq; simp [PyData.eqv]
    | bl _ => simp [pl] at g
    | dct _ _ _ _ => simp [pl] at g
    | ins _ _ _ => simp [pl] at g
    | scr _ => simp [pl] at g
    | cls _ => simp [pl] at g
  | .lst ds, e, p, q, h, g, hp, hq => by
    simp only [toP, Option.map_eq_some_iff] at hp
    obtain ⟨ps, hp, rfl⟩ := hp
    cases e with
    | non => cases hq; simp [PyData.eqv]
    | int j => cases hq; simp [PyData.eqv]
    | str y => cases hq; simp [PyData.eqv]
    | lst es =>
      simp only [toP, Option.map_eq_some_iff] at hq
      obtain ⟨qs, hq, rfl⟩ := hq
      have := eqvs_iff ds es (by simpa [pl] using h) (by simpa [pl] using g) hp hq
      simp only [PyData.eqv, D.lst.injEq]
      exact this
    | tup es => simp only [toP, Option.map_eq_some_iff] at hq; obtain ⟨qs, _, rfl⟩ := hq; simp [PyData.eqv]
    | bl _ => simp [pl] at g
    | dct _ _ _ _ => simp [pl] at g
    | ins _ _ _ => simp [pl] at g
    | scr _ => simp [pl] at g
    | cls _ => simp [pl] at g
  | .bl _, _, _, _, h, _, _, _ => by simp [pl] at h
  | .dct _ _ _ _, _, _, _, h, _, _, _ => by simp [pl] at h
  | .ins _ _ _, _, _, _, h, _, _, _ => by simp [pl] at h
  | .cls _, _, _, _, h, _, _, _ => by simp [pl] at h
  | .scr _, _, _, _, h, _, _, _ => by simp [pl] at h
theorem eqvs_iff : ∀ (ds es : List D) {ps qs : List PyData}, pls ds = true → pls es = true → toPs ds = some ps → toPs es = some qs → (PyData.eqvAll ps qs = true ↔ ds = es)
  | [], [], _, _, _, _, hp, hq => by cases hp; cases hq; simp [PyData.eqvAll]
  | [], e :: es, _, _, _, g, hp, hq => by
    cases hp
    obtain ⟨qs, h1, _⟩ := pls_of (e :: es) g
    rw [h1] at hq; cases hq
    simp only [toPs] at h1
    split at h1
    · cases h1; simp [PyData.eqvAll]
    · cases h1
  | d :: ds, [], _, _, h, _, hp, hq => by
    cases hq
    simp only [toPs] at hp
    split at hp
    · cases hp; simp [PyData.eqvAll]
    · cases hp
  | d :: ds, e :: es, _, _, h, g, hp, hq => by
    simp only [pls, Bool.and_eq_true] at h g
    simp only [toPs] at hp hq
    split at hp
    · rename_i p ps p1 p2
      cases hp
      split at hq
      · rename_i q qs q1 q2
        cases hq
        have a := eqv_iff d e h.1 g.1 p1 q1
        have b := eqvs_iff ds es h.2 g.2 p2 q2
        simp only [PyData.eqvAll, Bool.and_eq_true, List.cons.injEq, a, b]
      · cases hq
    · cases hp
end
open Classical in
theorem eqD_pl {d e : D} (h : pl d = true) (g : pl e = true) (h2 : rD d ≤ 64) (g2 : rD e ≤ 64) : eqD d e = some (.bl (decide (d = e))) := by
  obtain ⟨p, p1, p2, p3⟩ := pl_of d h
  obtain ⟨q, q1, q2, q3⟩ := pl_of e g
  have key : eqP d e = some (.bl (decide (d = e))) := by
    unfold eqP
    simp only [p1, q1]
    rw [if_pos (by simp only [SeqAt.shaped, p2, q2, p3, q3, Bool.true_and, Bool.and_eq_true, decide_eq_true_eq]; exact ⟨h2, g2⟩)]
    rw [show PyData.eqv p q = decide (d = e) from by
      rw [Bool.eq_iff_iff, decide_eq_true_eq]; exact eqv_iff d e h g p1 q1]
  unfold eqD
  cases c : eqS d e with
  | none => exact key
  | some r =>
    show some r = _
    cases d <;> cases e <;> simp only [eqS, Option.some.injEq] at c <;> try (cases c)
    all_goals first | (simp) | (simp [pl] at h)
open Classical in
theorem pls_all : ∀ {ds : List D}, (∀ d ∈ ds, pl d = true) → pls ds = true
  | [], _ => rfl
  | d :: r, h => by simp only [pls, Bool.and_eq_true]; exact ⟨h d (by simp), pls_all fun x hx => h x (by simp [hx])⟩
@[simp] theorem pls_ints (ns : List Int) : pls (ns.map D.int) = true := pls_all fun d h => by
  obtain ⟨n, _, rfl⟩ := List.mem_map.mp h; rfl
theorem rDs_le {k : Nat} : ∀ {ds : List D}, (∀ d ∈ ds, rD d ≤ k) → rDs ds ≤ k
  | [], _ => by simp [rDs]
  | d :: r, h => by
    simp only [rDs]
    have := h d (by simp)
    have := rDs_le (k := k) (ds := r) fun x hx => h x (by simp [hx])
    omega
@[simp] theorem rDs_ints (ns : List Int) : rDs (ns.map D.int) = 0 := Nat.le_zero.mp (rDs_le fun d h => by
  obtain ⟨n, _, rfl⟩ := List.mem_map.mp h; simp [rD])
@[simp] theorem fz_ownf {α : Type} {f : α → D} {l : List α} : (Slot.ownL (l.map (Slot.val ∘ f))).fz = some (.lst (l.map f)) := by rw [← List.map_map]; exact fz_own
@[simp] theorem fzs_f {α : Type} {f : α → D} {l : List α} : fzs (l.map (Slot.val ∘ f)) = some (l.map f) := by rw [← List.map_map]; exact fzs_map
@[simp] theorem valsOf_f {α : Type} {f : α → D} {l : List α} : valsOf (l.map (Slot.val ∘ f)) = some (l.map f) := by rw [← List.map_map]; exact valsOf_map _
end P
namespace P
open PySem PySem.Spec PyProof.Rows L2
@[simp] def Out.noer : Out → Out
  | .er _ _ => .stuck
  | o => o
def ExmOk (K : PySem.W.Frag) (c : Value) (k : Str → Option Bool) : Prop := ∀ x b, k x = some b → PySem.W.exmOne K (.ref (He.ga K x)) c = some b
inductive PHds (X : Cx) (J : List Nat) : List ExceptHandler → List ((Str → Option Bool) × S) → Prop
  | nil : PHds X J [] []
  | cons {x : Str} {c : Value} {b₀ : Stmt} {suite : List Stmt} {np pos' : Pos} {hds : List ExceptHandler} {k : Str → Option Bool} {m : S} {l : List ((Str → Option Bool) × S)} (hc : Names X x c) (hk : ExmOk X.K c k)
      (hsu : ∀ (a : Addr) (oe : Obj) (pn : List (Addr × Obj)), (∃ vs, oe.data = .fields vs) → PSL (X.suite a ((a, oe) :: pn)) WX0 J (b₀ :: suite) m) (r : PHds X J hds l) :
      PHds X J (.ExceptHandler (some (.Name x np)) none (b₀ :: suite) pos' :: hds) ((k, m) :: l)
section
variable {X : Cx} {Wx : WX} {J : List Nat}
theorem PostS.noer {K : PySem.W.Frag} {σ : L2.St} {L W : List Addr} {H : Hp} {E : Ends} : ∀ {o : Out}, PostS K Wx J σ L W H E o.noer → PostS K WX0 J σ L W H E o
  | .nx _, p => p
  | .bk _, p => p
  | .ct _, p => p
  | .rt _ _, p => p
  | .er _ _, p => p.elim
  | .stuck, p => p
end
end P
namespace P
open PySem PySem.Spec PyProof.Rows L2
def clsStmt (s : Stmt) (j : Nat) : Stmt := match s with
  | .ClassDef _ _ _ body _ _ _ _ _ _ _ => body.getD j (.Pass ⟨0, 0, 0, 0⟩)
  | _ => .Pass ⟨0, 0, 0, 0⟩
structure ExI (K : PySem.W.Frag) (c f : Str) : Prop where
  o : OexC K (He.ga K c)
  i : PySem.W.findIn K (.ref (He.ga K c)) "__init__" = some (some (.ref (He.ma K (He.ga K c) "__init__")))
  t : PySem.W.typeIn K (.ref (He.ma K (He.ga K c) "__init__")) = some (.type "function")
  n : PySem.W.findIn K (.ref (He.ga K c)) f = some none
section
variable {Pg : Program} {w : World} {K : PySem.W.Frag} {mg : Str → Option Value} {base : Heap} {x qual c f : Str} {params : Arguments} {body : List Stmt} {scope : Scope} {fi : Addr} {fd : FuncData}
end
section
variable {X : Cx} {cn : Str} {Ca gi : Addr} {n : Nat} {gd : FuncData} {qs : List Str} {sq : Sp} {e1 : Expr} {er : List Expr} {tz : TA} {px pw : Pos}
end
@[simp] def raiseI (c : Str) (fs : List Str) (ma : M (List D)) : S := fun ρ => match ma ρ with
  | .ok ds ρ1 => if ds.length = fs.length then .er ⟨c, fs, ds⟩ ρ1 else .stuck
  | .er e ρ1 => .er e ρ1
  | .stuck => .stuck
end P
namespace P
open PySem PySem.Spec PyProof.Rows L2
def look {α : Type} (f : Str) : List Str → List α → Option α
  | n :: ns, s :: ss => if f = n then some s else look f ns ss
  | _, _ => none
def putN (f : Str) : List Str → List Str
  | [] => [f]
  | n :: ns => if n = f then n :: ns else n :: putN f ns
def putS (f : Str) (s : Slot) : List Str → List Slot → List Slot
  | [], _ => [s]
  | n :: ns, t :: ss => if n = f then s :: ss else t :: putS f s ns ss
  | _ :: _, [] => []
section
variable {K : PySem.W.Frag} {G H : Hp}
theorem lookup_cons' {f g : Str} {x : V} {r : List (Str × V)} : List.lookup f ((g, x) :: r) = if f = g then some x else List.lookup f r := by
  rw [List.lookup_cons]
  by_cases h : f = g
  · subst h; simp
  · rw [if_neg h, show (f == g) = false from by simpa using h]
theorem Reps.look {f : Str} : ∀ {fs : List (Str × V)} {vs : List D} {d : D}, Reps K G (fs.map (·.2)) vs → P.look f (fs.map (·.1)) vs = some d → ∃ v, fs.lookup f = some v ∧ Rep K G v d
  | [], _, _, _, e => by cases e
  | (g, x) :: r, d' :: vs, d, h, e => by
    cases h with
    | cons h1 h2 =>
      simp only [List.map_cons, P.look] at e
      rw [lookup_cons']
      split at e
      · rename_i hh; cases e; exact ⟨x, by rw [if_pos hh], h1⟩
      · rename_i hh
        rw [if_neg hh]
        exact Reps.look h2 e
theorem RelSs.look {f : Str} : ∀ {fs : List (Str × V)} {ss : List Slot} {s : Slot} {fp : List Addr}, RelSs K G H fp (fs.map (·.2)) ss → P.look f (fs.map (·.1)) ss = some s → ∃ v A B C, fs.lookup f = some v ∧ fp = A ++ B ++ C ∧ RelS K G H B v s
  | [], _, _, _, _, e => by cases e
  | (g, x) :: r, d' :: vs, d, _, h, e => by
    cases h with
    | @cons f1 g1 _ _ _ _ h1 h2 =>
      simp only [List.map_cons, P.look] at e
      rw [lookup_cons']
      split at e
      · rename_i hh; cases e; exact ⟨x, [], f1, g1, by rw [if_pos hh], by simp, h1⟩
      · rename_i hh
        rw [if_neg hh]
        obtain ⟨v, A, B, C, e1, e2, e3⟩ := RelSs.look h2 e
        exact ⟨v, f1 ++ A, B, C, e1, by rw [e2]; simp, e3⟩
theorem putF_fst (f : Str) (v : V) : ∀ fs : List (Str × V), (putF f v fs).map (·.1) = putN f (fs.map (·.1))
  | [] => rfl
  | (g, x) :: r => by
    simp only [putF, List.map_cons, putN]
    split
    · rfl
    · rw [List.map_cons, putF_fst f v r]
theorem RelSs.put {f : Str} {s : Slot} {v : V} {F : List Addr} : ∀ {fs : List (Str × V)} {ss : List Slot} {fp : List Addr}, RelSs K G H fp (fs.map (·.2)) ss → RelS K G H F v s →
    ∃ A B C : List Addr, fp = A ++ B ++ C ∧ RelSs K G H (A ++ F ++ C) ((putF f v fs).map (·.2)) (putS f s (fs.map (·.1)) ss)
  | [], _, _, .nil, q => ⟨[], [], [], rfl, by simpa [putF, putS] using RelSs.cons q (.nil (K := K) (G := G) (H := H))⟩
  | (g, x) :: r, d' :: ss, _, h, q => by
    cases h with
    | @cons f1 g1 _ _ _ _ h1 h2 =>
      simp only [putF, List.map_cons, putS]
      split
      · exact ⟨[], f1, g1, by simp, by simpa using RelSs.cons q h2⟩
      · obtain ⟨A, B, C, e, z⟩ := RelSs.put h2 q
        exact ⟨f1 ++ A, B, C, by rw [e]; simp, by simpa using RelSs.cons h1 z⟩
theorem Rep.ins_inv {v : V} {c : Str} {ns : List Str} {vs : List D} (h : Rep K G v (.ins c ns vs)) : ∃ a dx fs, v = .ref a ∧ G a = some (.ins (He.ga K c) dx fs) ∧ ns = fs.map (·.1) ∧ Reps K G (fs.map (·.2)) vs ∧ ClsF K c := by
  generalize e : D.ins c ns vs = d at h
  cases h with
  | ins h r F => injection e with h1 h2 h3; subst h1 h2 h3; exact ⟨_, _, _, rfl, h, rfl, r, F⟩
  | _ => cases e
end
def fldD (c f : Str) : D → Option D
  | .ins c' ns vs => if c' = c then look f ns vs else none
  | _ => none
@[simp] def fldM (c f : Str) (ma : M D) : M D := fun ρ => (ma ρ).bd fun d ρ1 => ofO (fldD c f d) ρ1
@[simp] def fldO (i : Nat) (c f : Str) : M D := fun ρ => match ρ[i]? with
  | some (.ownI c' ns ss) => if c' = c then (match look f ns ss with
    | some (.val d) => .ok d ρ
    | _ => .stuck) else .stuck
  | _ => .stuck
@[simp] def setFldS (i : Nat) (c f : Str) (m : M Slot) : S := fun ρ => match m ρ with
  | .ok s ρ1 => if s.isUnb then .stuck else (match ρ1[i]? with
    | some (.ownI c' ns ss) => if c' = c ∧ ns.length < 900 ∧ ns.length = ss.length then .nx (ρ1.set i (.ownI c (putN f ns) (putS f s ns ss))) else .stuck
    | _ => .stuck)
  | .er e ρ1 => .er e ρ1
  | .stuck => .stuck
section
variable {X : Cx} {Wx : WX} {J : List Nat}
theorem px_fld {c f : Str} {e : Expr} {pos : Pos} {ma : M D} (na : NoAttr X.K (He.ga X.K c) f) (ha : PD X Wx e ma) (hb : attributeBase e f X.env (eval e X.env) = eval e X.env := by rfl) : PD X Wx (.Attribute e f pos) (fldM c f ma) := by
  refine PE_imp (pe_fld ha hb) fun σ H Q h => ?_
  obtain ⟨ρ, L, W, rl, p⟩ := h
  simp only [vl, fldM, map_bd] at p
  refine bd_D (T := Post X.K Wx σ L W H Q) rl p fun x d ρ1 W1 H1 st1 rl1 q1 p => ?_
  obtain ⟨d', e', p2⟩ := Post.ofO p
  clear p
  unfold fldD at e'
  split at e'
  · split at e'
    · rename_i hc
      subst hc
      obtain ⟨a, dx, fs, rfl, h, rfl, r, F⟩ := q1.ins_inv
      obtain ⟨v, h1, h2⟩ := r.look e'
      exact ⟨a, _, dx, fs, v, rfl, (hide_some h).2, F.cl, na, h1, (p2.step st1).here rl1 (Ex.refl _) h2⟩
    · cases e'
  · cases e'
theorem RelS.ownI_inv {K : PySem.W.Frag} {G H : Hp} {fp : List Addr} {v : V} {c : Str} {ns : List Str} {ss : List Slot} (h : RelS K G H fp v (.ownI c ns ss)) :
    ∃ a dx fs fp', fp = a :: fp' ∧ v = .ref a ∧ H a = some (.ins (He.ga K c) dx fs) ∧ ns = fs.map (·.1) ∧ RelSs K G H fp' (fs.map (·.2)) ss ∧ ClsF K c := by
  generalize e : Slot.ownI c ns ss = s at h
  cases h with
  | ownI h r F => injection e with h1 h2 h3; subst h1 h2 h3; exact ⟨_, _, _, _, rfl, rfl, h, rfl, r, F⟩
  | _ => cases e
theorem set_same {α : Type} {l : List α} {i : Nat} {x : α} (h : l[i]? = some x) : l.set i x = l := by
  apply List.ext_getElem?
  intro j
  by_cases e : i = j
  · subst e
    rw [List.getElem?_set_self (List.getElem?_eq_some_iff.mp h).1, h]
  · rw [List.getElem?_set_ne e]
theorem Rl.putFld {K : PySem.W.Frag} {L W : List Addr} {ρ : Env} {σ : L2.St} {H : Hp} {i : Nat} {c f : Str} {ns : List Str} {ss : List Slot} {s : Slot} {v : V} (r : Rl K L W (s :: ρ) (some v :: σ) H) (hs : s ≠ .unb) (e : ρ[i]? = some (.ownI c ns ss)) :
    ∃ a dx fs, σ[i]? = some (some (.ref a)) ∧ H a = some (.ins (He.ga K c) dx fs) ∧ ns = fs.map (·.1) ∧ ClsF K c ∧
      ∃ W', Stp L W H W' (L2.upd H a (.ins (He.ga K c) dx (putF f v fs))) ∧ Rl K L W' (ρ.set i (.ownI c (putN f ns) (putS f s ns ss))) σ (L2.upd H a (.ins (He.ga K c) dx (putF f v fs))) := by
  obtain ⟨v0, A0, f0, B0, h1, h2, h3⟩ := r.rel.get (i := i + 1) (by simpa using e) (by simp)
  have h1 : σ[i]? = some (some v0) := by simpa using h1
  obtain ⟨W1, st1, r1⟩ := r.take (i := i + 1) (by simpa using e) (by simp) (by simpa using h1)
  rw [List.set_cons_succ] at r1
  obtain ⟨rel, nd, dj, lk⟩ := r1
  cases rel with
  | @cons f1 g1 _ _ _ _ q1 rel2 =>
    cases rel2 with
    | unb _ => exact absurd rfl hs
    | @cons f2 g2 _ _ _ _ q2 rel3 =>
      obtain ⟨a, dx, fs, fp', rfl, rfl, h, rfl, q, F⟩ := q1.ownI_inv
      refine ⟨a, dx, fs, h1, h, rfl, F, ?_⟩
      obtain ⟨A, B, C, rfl, q5⟩ := q.put (f := f) q2
      have am : a ∈ (a :: (A ++ B ++ C)) ++ (f2 ++ g2) := by simp
      have n1 := List.nodup_cons.mp (show (a :: ((A ++ B ++ C) ++ (f2 ++ g2))).Nodup from nd)
      have sub : ∀ x ∈ (A ++ f2 ++ C) ++ g2, x ∈ (A ++ B ++ C) ++ (f2 ++ g2) := fun x hx => by
        simp only [List.mem_append] at hx ⊢
        rcases hx with ((h | h) | h) | h <;> simp [h]
      have ne : ∀ x ∈ (A ++ f2 ++ C) ++ g2, x ≠ a := fun x hx z => by subst z; exact n1.1 (sub x hx)
      have sub2 : ∀ x ∈ a :: (A ++ f2 ++ C) ++ g2, x ∈ (a :: (A ++ B ++ C)) ++ (f2 ++ g2) := fun x hx => by
        rcases List.mem_cons.mp hx with h | h
        · subst h; exact am
        · exact List.mem_cons_of_mem _ (sub x h)
      have nd2 : (a :: (A ++ f2 ++ C) ++ g2).Nodup := by
        refine List.nodup_cons.mpr ⟨fun z => ne a z rfl, ?_⟩
        have p1 : ((A ++ f2 ++ C) ++ g2).Perm (A ++ C ++ (f2 ++ g2)) := by
          rw [List.append_assoc, List.append_assoc, List.append_assoc]
          refine List.Perm.append_left A ?_
          rw [← List.append_assoc, ← List.append_assoc]
          exact List.Perm.append_right g2 List.perm_append_comm
        refine p1.nodup_iff.mpr (n1.2.sublist ?_)
        exact (List.Sublist.append_right (by
          rw [List.append_assoc]
          exact List.Sublist.append_left (List.sublist_append_right B C) A) _)
      have np : ∀ x ∈ L, x ≠ a := fun x hx z => by subst z; exact dj x hx am
      have hh : hide (L2.upd H a (.ins (He.ga K c) dx (putF f v fs))) ((a :: (A ++ f2 ++ C) ++ g2) ++ L) = hide H ((a :: (A ++ f2 ++ C) ++ g2) ++ L) := hide_upd _ (by simp)
      have ex : Ex (hide H ((a :: (A ++ B ++ C)) ++ (f2 ++ g2) ++ L)) (hide (L2.upd H a (.ins (He.ga K c) dx (putF f v fs))) ((a :: (A ++ f2 ++ C) ++ g2) ++ L)) := by
        rw [hh]
        exact hide_mono (Ex.refl _) fun x hx => by
          rcases List.mem_append.mp hx with h | h
          · exact .inl (List.mem_append_left _ (sub2 x h))
          · exact .inl (List.mem_append_right _ h)
      have st2 : Stp L ((a :: (A ++ B ++ C)) ++ (f2 ++ g2)) H (a :: (A ++ f2 ++ C) ++ g2) (L2.upd H a (.ins (He.ga K c) dx (putF f v fs))) := ⟨ex, fun x hx => .inl (sub2 x hx), fun x hx => upd_ne (np x hx)⟩
      have r5 : Rl K L (a :: (A ++ f2 ++ C) ++ g2) (.ownI c (putN f (fs.map (·.1))) (putS f s (fs.map (·.1)) ss) :: ρ.set i .unb) (some (.ref a) :: σ) (L2.upd H a (.ins (He.ga K c) dx (putF f v fs))) := by
        refine ⟨.cons ?_ (rel3.mono ex fun x hx => upd_ne (ne x (by simp [hx]))), nd2, fun x hx z => dj x hx (sub2 x z), fun x hx => by rw [upd_ne (np x hx)]; exact lk x hx⟩
        rw [← putF_fst f v fs]
        exact .ownI upd_same (RelSs.mono ex q5 fun x hx => upd_ne (ne x (by simp only [List.mem_append] at hx ⊢; exact .inl hx))) F
      obtain ⟨W6, st6, r6⟩ := r5.store i (by simp)
      rw [List.set_set, set_same h1] at r6
      exact ⟨W6, (st1.trans st2).trans st6, r6⟩
theorem pst_fld {i : Nat} {c f x : Str} {e : Expr} {m : M Slot} {p1 p2 pos : Pos} (na : NoAttr X.K (He.ga X.K c) f) (he : PX X Wx e m) (hN : X.N[i]? = some x := by rfl) (hv : Vis X.env.scope x := by first | exact Or.inl rfl | exact Or.inr (Or.inl rfl) | exact Or.inr (Or.inr rfl)) (hd : (x == ("__debug__" : Str)) = false := by decide)
    (hcd : (x == ("__classdict__" : Str)) = false := by decide) (hs : swapsWith e (some (.Attribute (.Name x p1) f p2)) pos.line X.env = pure false := by rfl) : PSt X Wx J (.Assign [.Attribute (.Name x p1) f p2] e pos) (setFldS i c f m) := by
  refine PS_imp (ps_fld (pe_var (i := i) hN hv hd hcd) he hs) fun E σ H h => ?_
  obtain ⟨ρ, L, W, rl, p⟩ := h
  have p : PostS X.K Wx J σ L W H E (Out.of ((m ρ).bd fun s ρ1 => .ok (if s.isUnb then .stuck else (match ρ1[i]? with
    | some (.ownI c' ns ss) => if c' = c ∧ ns.length < 900 ∧ ns.length = ss.length then .nx (ρ1.set i (.ownI c (putN f ns) (putS f s ns ss))) else .stuck
    | _ => .stuck)) ρ1)) := by
    revert p; show PostS X.K Wx J σ L W H E (setFldS i c f m ρ) → _; unfold setFldS; cases m ρ <;> exact id
  refine bd_S (T := fun r => PostS X.K Wx J σ L W H E (Out.of r)) rl p (fun v s ρ1 W1 H1 st1 rl1 p => ?_) id (fun e ρ' h c dd W' H' st r er => h c dd σ W' H' .refl st r er)
  have p : PostS X.K Wx J σ L W H E (if s.isUnb then .stuck else (match ρ1[i]? with
    | some (.ownI c' ns ss) => if c' = c ∧ ns.length < 900 ∧ ns.length = ss.length then .nx (ρ1.set i (.ownI c (putN f ns) (putS f s ns ss))) else .stuck
    | _ => .stuck)) := p
  by_cases hn : s.isUnb = true
  · rw [if_pos hn] at p; exact p.elim
  rw [if_neg hn] at p
  split at p
  · rename_i c' ns ss e
    split at p
    · rename_i hc
      obtain ⟨rfl, hc2, _⟩ := hc
      obtain ⟨a, dx, fs, g1, g2, g3, F, W2, st2, r2⟩ := rl1.putFld (f := f) (Slot.bound hn) e
      subst g3
      exact ⟨_, g1, a, _, dx, fs, rfl, g2, F.cl, na, by rw [List.length_map] at hc2; omega, p σ W2 _ .refl (st1.trans st2) r2⟩
    · exact p.elim
  · exact p.elim
end
end P
namespace P
open PySem PySem.Spec PyProof.Rows L2
theorem Rm.in1 {k : Nat} {A : Around} (r : Rm (k + 1) A) : Rm k A.in1 := ⟨r.room.in1, r.grd⟩
theorem Rm.make {k : Nat} {A : Around} (r : Rm (k + 1) A) (C : Addr) (us : List Value) (kw : List (Str × Value)) : Rm k (A.under (.builtin "type.__call__" ⟨.ref C :: us, kw⟩)) := ⟨r.room.make C us kw, by
  have := r.grd
  first
  | exact this
  | (simpa [Around.under, Code.weight, Code.isCreation, Code.isGuard, Code.isCaller, Code.frames, Code.isFrame, guardIds] using this)⟩
theorem cx_false {P : Program} {w : World} {outer : List PySem.Env} {H : Hp} {s : Shared} {e : Value} {s' : Shared} (h : L2N.CX P w outer H s (fun _ _ _ => False) e s') : False := by
  obtain ⟨_, _, _, _, _, _, _, _, _, _, _, _, z⟩ := h
  exact z
@[simp] def FR.ok? (ρ : Env) : FR → Res Slot
  | .ok s => .ok s ρ
  | _ => .stuck
theorem spP_ok {K : PySem.W.Frag} {Wx : WX} {L W : List Addr} {ρ : Env} {σ : L2.St} {H : Hp} {Q : VK} {E : XK} {f : List D → FR} {vs : List V} {ds : List D} (r : Rl K L W ρ σ H) (q : Reps K (hide H (W ++ L)) vs ds) (p : Post K Wx σ L W H Q ((f ds).ok? ρ)) : spP K f vs H Q E := by
  have h0 : hide H (L ++ W) = hide H (W ++ L) := hide_congr fun a => by simp only [List.mem_append]; exact Or.comm
  refine ⟨L ++ W, ds, fun a h => r.alloc a (by simp only [List.mem_append] at h ⊢; exact h.symm), by rw [h0]; exact q, ?_⟩
  revert p
  cases f ds with
  | stuck => exact fun p => p
  | ok s => exact fun p v W' H' st rl => let z := r.join st rl; p v (W' ++ W) H' z.2 z.1
  | er e => exact fun p => p.elim
section
variable {X : Cx} {Wx : WX} {k : Nat} {f c : Str} {g : Addr} {fd : FuncData} {ps : List Str}
theorem getprop_G {p a dx : Addr} {fs : List (Str × V)} {sp : Sp} {pins : List (Addr × Obj)} {σ : L2.St} {H : Hp} {s : Shared} {Q : VK} {b : Bool} {C : Addr} (I : Inv X pins σ H s) (ea : H a = some (.ins C dx fs)) (c : Cls X.K C) (hp : PropOf X.K C f p g)
    (F : FnG X.prog X.w X.K X.mg X.base k g fd ps sp) (hr : Rm (k + 1) X.A) (hb : Binds X.K fd ps []) (h : sp [.ref a] H Q fun _ _ _ => False) :
    wpAny (model X.prog X.w) X.A (getAttr (.ref a) f b) (EP X pins σ Q) X.xe s := by
  obtain ⟨mA, O, _, _, _, _⟩ := ins_get I.hok ea
  obtain ⟨od, J, _⟩ := O.look
  obtain ⟨rest, hrec⟩ := hp.rec_
  have I1 := I.tok (s.toks + 1)
  have hl : ([Value.ref a] ++ []).length = ps.length := F.len _ _ _ _ h
  have hc : (PySem.W.clsIn X.K C).isSome = true := by
    obtain ⟨cd, hc, _⟩ := PySem.W.any_some c.hd
    rw [hc]
    rfl
  refine PySem.W.get_bind I.kIn J (PySem.W.plainGet_of (c.get f)).1 (PySem.W.findObj_data hc hp.at_ hp.get hp.tak) (PySem.W.plainGet_of (c.get f)).2 (wpAny_call (PySem.W.prop_get (s := { s with toks := s.toks + 1 }) I.kIn hrec ?_))
  refine codeAny_mono (F.run X.A.in1 X.stack { s with toks := s.toks + 1 } H ⟨[.ref a], []⟩ [.ref a] [.ref a] Q _ hr.in1 I1.env0.in1 (hb _ [.ref a] I1.kIn hl) (.cons rfl .nil) h) fun r s' hq => ?_
  cases r with
  | error er => exact (cx_false hq).elim
  | ok fl =>
    cases fl with
    | ret u =>
      obtain ⟨v, H', I3, rv, q3⟩ := I1.after hq
      show wpAny _ _ (handedOut u) _ _ _
      rw [PySem.W.handedOut_of (handed_of rv)]
      exact wpAny_pure ⟨v, H', I3, rv, q3⟩
    | next => exact False.elim hq
    | brk => exact False.elim hq
    | cont => exact False.elim hq
def insI (c : Str) : D → Bool
  | .ins c' _ _ => decide (c' = c)
  | _ => false
@[simp] def propM (c : Str) (F : List D → FR) (ma : M D) : M Slot := fun ρ => (ma ρ).bd fun d ρ1 => if insI c d then (F [d]).ok? ρ1 else .stuck
theorem px_prop {e : Expr} {pos : Pos} {p : Addr} {ma : M D} {F : List D → FR} (hp : PropOf X.K (He.ga X.K c) f p g) (G : FnG X.prog X.w X.K X.mg X.base k g fd ps (spP X.K F)) (hr : Rm (k + 1) X.A) (hbn : Binds X.K fd ps []) (ha : PD X Wx e ma)
    (hb : attributeBase e f X.env (eval e X.env) = eval e X.env := by rfl) : PX X Wx (.Attribute e f pos) (propM c F ma) := by
  refine ⟨fun pins s σ H Q I h => ?_⟩
  obtain ⟨ρ, L, W, rl, p⟩ := h
  have h := bd_D (T := Post X.K Wx σ L W H Q) (R := fun x H1 => ∃ a dx fs, x = .ref a ∧ H1 a = some (.ins (He.ga X.K c) dx fs) ∧ ClsF X.K c ∧ spP X.K F [x] H1 Q fun _ _ _ => False) rl p fun x d ρ1 W1 H1 st1 rl1 q1 p => by
    cases d with
    | ins c' ns vs =>
      have p2 : Post X.K Wx σ L W H Q (if insI c (.ins c' ns vs) then (F [.ins c' ns vs]).ok? ρ1 else .stuck) := p
      clear p
      by_cases hc0 : insI c (.ins c' ns vs) = true
      · rw [if_pos hc0] at p2
        have hc : c' = c := of_decide_eq_true hc0
        subst hc
        have p := p2
        have z := spP_ok (E := fun _ _ _ => False) rl1 (.cons q1 .nil) (p.step st1)
        obtain ⟨a, dx, fs, rfl, h, _, _, Fc⟩ := q1.ins_inv
        exact ⟨a, dx, fs, rfl, (hide_some h).2, Fc, z⟩
      · rw [if_neg hc0] at p2; exact p2.elim
    | _ => exact p.elim
  refine attr_of hb (thn (ha.run pins s σ H _ I h) fun u s1 ⟨x, H1, I1, rx, a, dx, fs, ex, ea, Fc, z⟩ => ?_)
  subst ex
  obtain rfl : u = Value.ref a := rx
  exact getprop_G I1 ea Fc.cl hp G hr hbn z
structure KBs (K : PySem.W.Frag) (fd : FuncData) (ps : List Str) (n : Nat) (ks : List Str) (gD : List D → List D → List D) : Prop where
  ex : ∃ g gV, KBn K fd ps (n + 1) ks g gV ∧ ∀ (G : Hp) (x : V) (vs zs : List V) (ds es : List D), Reps K G vs ds → Reps K G zs es → ∃ ys, gV (x :: vs) zs = x :: ys ∧ Reps K G ys (gD ds es)
@[simp] def makeM (c : Str) (F : List Slot → FM) (n m : Nat) (gD : List D → List D → List D) (ma mk : M (List D)) : M Slot := fun ρ => (ma ρ).bd fun ds ρ1 => (mk ρ1).bd fun es ρ2 =>
  if ds.length = n ∧ es.length = m then (match F (.ownI c [] [] :: (gD ds es).map .val) with
    | .ok (.val .non) [s] => if s.isUnb then .stuck else .ok s ρ2
    | .er e _ => .er e ρ2
    | _ => .stuck) else .stuck
section
variable {K : PySem.W.Frag} {L W : List Addr} {ρ : Env} {σ : L2.St} {H : Hp} {Q : VK}
theorem make_use {F : List Slot → FM} {m0 : Nat} {ys : List V} {ds : List D} (r : Rl K L W ρ σ H) (Fc : ClsF K c) (q : Reps K (hide H (W ++ L)) ys ds) (hmm : ds.length = m0)
    (p : Post K Wx σ L W H Q (match F (.ownI c [] [] :: ds.map .val) with
    | .ok (.val .non) [s] => if s.isUnb then .stuck else .ok s ρ
    | .er e _ => .er e ρ
    | _ => .stuck)) (x dx : Addr) (hx : H x = none) (hd : H dx = none) (hn : dx ≠ x) :
    spM K (true :: List.replicate m0 false) F (.ref x :: ys) (upd (upd H dx (.own x)) x (.ins (He.ga K c) dx [])) (fun v H3 => v = .non ∧ Q (.ref x) H3) fun c d H' => Wx c d σ H' := by
  have e1 : Ex H (upd H dx (.own x)) := Ex.new hd
  have hx1 : upd H dx (.own x) x = none := by rw [upd_ne (Ne.symm hn)]; exact hx
  have e2 : Ex (upd H dx (.own x)) (upd (upd H dx (.own x)) x (.ins (He.ga K c) dx [])) := Ex.new hx1
  have ex := e1.trans e2
  have al := r.alloc
  have nx : ∀ a ∈ L ++ W, a ≠ x := fun a ha z => by subst z; exact al a (by simp only [List.mem_append] at ha ⊢; exact ha.symm) hx
  have ndx : ∀ a ∈ L ++ W, a ≠ dx := fun a ha z => by subst z; exact al a (by simp only [List.mem_append] at ha ⊢; exact ha.symm) hd
  have st0 : Stp (L ++ W) [] H [x] (upd (upd H dx (.own x)) x (.ins (He.ga K c) dx [])) := by
    refine ⟨hide_mono ex fun a ha => ?_, fun a ha => ?_, fun a ha => ?_⟩
    · rcases List.mem_append.mp ha with h | h
      · rw [List.mem_singleton.mp h]; exact .inr hx
      · exact .inl (by simpa using h)
    · rw [List.mem_singleton.mp ha]; exact .inr hx
    · rw [upd_ne (nx a ha), upd_ne (ndx a ha)]
  have q2 : Reps K (hide (upd (upd H dx (.own x)) x (.ins (He.ga K c) dx [])) ([x] ++ (L ++ W))) ys ds := by
    refine q.mono (hide_mono ex fun a ha => ?_)
    simp only [List.mem_append, List.mem_singleton] at ha ⊢
    rcases ha with h | h | h
    · subst h; exact .inr hx
    · exact .inl (.inr h)
    · exact .inl (.inl h)
  have r2 : Rl K (L ++ W) [x] (.ownI c [] [] :: ds.map .val) ((V.ref x :: ys).map some) (upd (upd H dx (.own x)) x (.ins (He.ga K c) dx [])) := by
    have rest : ∀ {G : Hp} {ys : List V} {ds : List D}, Reps K G ys ds → RelE K G (upd (upd H dx (.own x)) x (.ins (He.ga K c) dx [])) [] (ys.map some) (ds.map .val) := fun {G ys ds} h => by
      have := relE_start (N := 0) (K := K) (H := upd (upd H dx (.own x)) x (.ins (He.ga K c) dx [])) h
      simpa using this
    refine ⟨?_, by simp, fun a ha z => nx a ha (List.mem_singleton.mp z), fun a ha => ?_⟩
    · exact .cons (f := [x]) (g := []) (.ownI (fs := []) upd_same .nil Fc) (rest q2)
    · rw [upd_ne (nx a ha), upd_ne (ndx a ha)]
      exact al a (by simp only [List.mem_append] at ha ⊢; exact ha.symm)
  have hs2 : ∀ (n : Nat) (zs : List V), sel (List.replicate n false) zs = [] := fun n => by
    induction n with
    | zero => intro zs; simp
    | succ n ih => intro zs; cases zs <;> simp [List.replicate_succ, ih]
  refine ⟨L ++ W, [x], _, by simp [← hmm, q.length], r2, ?_⟩
  rw [show sel (true :: List.replicate m0 false) (V.ref x :: ys) = [V.ref x] from by simp [hs2]]
  revert p
  cases F (.ownI c [] [] :: ds.map .val) with
  | stuck => exact fun p => p
  | er e ms =>
    intro p cl dd W' H' st rl er
    have z := r.joinE (st0.trans st)
    exact p cl dd W H' z.2.1 z.1 (er.mono z.2.2)
  | ok s ms =>
    intro p v W' H' st rl
    match s, ms, p with
    | .val .non, [s0], p =>
      have p : Post K Wx σ L W H Q (if s0.isUnb then .stuck else .ok s0 ρ) := p
      by_cases hn : s0.isUnb = true
      · rw [if_pos hn] at p; exact p.elim
      rw [if_neg hn] at p
      have rl : Rl K (L ++ W) W' [s0, .val .non] [some (.ref x), some v] H' := rl
      obtain ⟨v', h1, h2⟩ := rl.var (i := 1) rfl
      cases h1
      obtain ⟨W2, st2, r3⟩ := rl.sel [true, false]
      have z := r.join ((st0.trans st).trans st2) r3
      exact ⟨h2.non_inv, p _ (W2 ++ W) H' z.2 z.1⟩
theorem run_makeG {C : Addr} {n : Nat} {ks : List Str} {sp : Sp} {pins : List (Addr × Obj)} {s : Shared} {us ws : List Value} {vs zs : List V} {gF : List Value → List Value → List Value} {gV : List V → List V → List V} (M : Mk X.K C g) (F : FnG X.prog X.w X.K X.mg X.base k g fd ps sp) (hr : Rm (k + 1) X.A) (hb : KBn X.K fd ps (n + 1) ks gF gV)
    (tk : L2N.Takes X Wx) (I : Inv X pins σ H s) (r : Vals vs us) (rz : Vals zs ws) (l1 : vs.length = n) (l2 : zs.length = ks.length)
    (h : ∀ x dx, H x = none → H dx = none → dx ≠ x → sp (gV (.ref x :: vs) zs) (upd (upd H dx (.own x)) x (.ins C dx [])) (fun v H2 => v = .non ∧ Q (.ref x) H2) fun c d H' => Wx c d σ H') :
    wpAny (model X.prog X.w) X.A (call (.ref C) us (ks.zip ws)) (EP X pins σ Q) X.xe s := by
  have hq := h (s.heap.objs.size + 1) s.heap.objs.size (I.hok.fresh (Nat.le_succ _)) (I.hok.fresh (Nat.le_refl _)) (Nat.ne_of_lt (Nat.lt_succ_self _))
  have I2 := Inv.made (C := C) I
  have r1 : Vals (V.ref (s.heap.objs.size + 1) :: vs) (Value.ref (s.heap.objs.size + 1) :: us) := .cons rfl r
  have r2 := hb.rel r1 rz
  have e1 : (Value.ref (s.heap.objs.size + 1) :: us).length = n + 1 := r1.length.symm.trans (congrArg Nat.succ l1)
  have e2 : ws.length = ks.length := rz.length.symm.trans l2
  refine wpAny_call (make_map (f := g) I.kIn M.makes M.init (beq_iff_eq.mp M.fn) (codeAny_mono (F.run _ X.stack _ _ ⟨Value.ref (s.heap.objs.size + 1) :: us, ks.zip ws⟩ (gF (Value.ref (s.heap.objs.size + 1) :: us) ws) _ _ _ (hr.make C us (ks.zip ws))
    (I2.env0.make C us (ks.zip ws)) (hb.to _ (Value.ref (s.heap.objs.size + 1) :: us) ws I2.kIn e1 e2) r2 hq) fun r s' hq' => ?_))
  cases r with
  | error e => exact L2N.passAt tk σ pins _ _ e s' I2 hq'
  | ok fl =>
    cases fl with
    | ret u =>
      obtain ⟨v, H', I3, rv, ev, q3⟩ := I2.after hq'
      subst ev
      exact ⟨rv, ⟨V.ref (s.heap.objs.size + 1), H', I3, rfl, q3⟩⟩
    | next => exact False.elim hq'
    | brk => exact False.elim hq'
    | cont => exact False.elim hq'
end
theorem px_make {n m0 : Nat} {ks : List Str} {F : List Slot → FM} {p pos : Pos} {e : Expr} {es : List Expr} {kws : List Keyword} {ma mk : M (List D)} {gD : List D → List D → List D} (Fc : ClsF X.K c) (Mm : Mk X.K (He.ga X.K c) g)
    (G : FnG X.prog X.w X.K X.mg X.base k g fd ps (spM X.K (true :: List.replicate m0 false) F)) (hr : Rm (k + 1) X.A) (tk : L2N.Takes X Wx) (hb : KBs X.K fd ps n ks gD) (hm : X.mg c = some (.ref (He.ga X.K c)))
    (hgD : ∀ ds es, ds.length = n → es.length = ks.length → (gD ds es).length = m0) (ha : PAs X Wx (e :: es) ma) (hkw : PKs X Wx kws mk) (hall : (backToKw pos (keywordEach kws X.env)).all (·.1.isSome) = true := by rfl) (hks : (backToKw pos (keywordEach kws X.env)).filterMap (·.1) = ks := by rfl)
    (hg : Gl X c := by rfl) (hdb : (c == ("__debug__" : Str)) = false := by decide) (he : starEach (e :: es) X.env = (false, eval e X.env) :: starEach es X.env := by rfl)
    (hpl : ((backTo pos (starEach (e :: es) X.env)).any (·.1) || (backToKw pos (keywordEach kws X.env)).any (·.1.isNone)) = false := by rfl) :
    PX X Wx (.Call (.Name c p) (e :: es) kws pos) (makeM c F n ks.length gD ma mk) := by
  obtain ⟨gF, gV, hb, hD⟩ := hb.ex
  refine ⟨fun pins s σ H Q I h => ?_⟩
  obtain ⟨ρ, L, W, rl, p⟩ := h
  refine wpAny_Call_Name_kw (ld_glob I hg hm ?_ hdb)
  have h := bd_A (T := Post X.K Wx σ L W H Q) (R := fun vs H1 => ∃ ds ρ1 W1, Rl X.K L W1 ρ1 σ H1 ∧ Reps X.K (hide H1 (W1 ++ L)) vs ds ∧ Post X.K Wx σ L W1 H1 Q ((mk ρ1).bd fun es ρ2 => if ds.length = n ∧ es.length = ks.length then (match F (.ownI c [] [] :: (gD ds es).map .val) with
    | .ok (.val .non) [s] => if s.isUnb then .stuck else .ok s ρ2
    | .er e _ => .er e ρ2
    | _ => .stuck) else .stuck)) rl p fun vs ds ρ1 W1 H1 st1 rl1 q1 p => ⟨ds, ρ1, W1, rl1, q1, p.step st1⟩
  refine PySem.W.callWith_KW (h₀ := X.base) I.ok.mod.kin Mm.kp hall (thn (ha.run pos pins s σ H _ I h) fun us s1 ⟨vs, H1, I1, r, ds, ρ1, W1, rl1, q1, p⟩ => ?_) hpl he
  have h2 := bd_A (T := Post X.K Wx σ L W1 H1 Q) (R := fun zs H2 => ∃ es ρ2 W2, Rl X.K L W2 ρ2 σ H2 ∧ Reps X.K (hide H2 (W2 ++ L)) vs ds ∧ Reps X.K (hide H2 (W2 ++ L)) zs es ∧ Post X.K Wx σ L W2 H2 Q (if ds.length = n ∧ es.length = ks.length then (match F (.ownI c [] [] :: (gD ds es).map .val) with
    | .ok (.val .non) [s] => if s.isUnb then .stuck else .ok s ρ2
    | .er e _ => .er e ρ2
    | _ => .stuck) else .stuck)) rl1 p fun zs es ρ2 W2 H2 st2 rl2 q2 p => ⟨es, ρ2, W2, rl2, st2.reps q1, q2, p.step st2⟩
  refine thn (hkw.run pos pins s1 σ H1 _ I1 h2) fun ws s2 ⟨zs, H2, I2, rz, es, ρ2, W2, rl2, q1, q2, p⟩ => ⟨I2.kIn, ?_⟩
  rw [hks]
  by_cases c1 : ds.length = n ∧ es.length = ks.length
  · rw [if_pos c1] at p
    refine run_makeG Mm G hr hb tk I2 r rz (q1.length.trans c1.1) (q2.length.trans c1.2) fun x dx hx hd hn => ?_
    obtain ⟨ys, e1, e2⟩ := hD _ (.ref x) _ _ _ _ q1 q2
    rw [e1]
    exact make_use rl2 Fc e2 (hgD _ _ c1.1 c1.2) p x dx hx hd hn
  · rw [if_neg c1] at p
    exact p.elim
end
end P
namespace P
open PySem PySem.Spec PyProof.Rows L2
def chkI (c m : Str) : D → Bool
  | .ins c' ns _ => decide (c' = c ∧ m ∉ ns)
  | _ => false
@[simp] def methM (c m : Str) (F : List D → FR) (n : Nat) (gD : List D → List D → List D) (mo : M D) (ma : M (List D)) : M Slot := fun ρ => (mo ρ).bd fun d ρ1 => if chkI c m d then (ma ρ1).bd fun ds ρ2 => if ds.length = n then (F (gD (d :: ds) [])).res ρ2 else .stuck else .stuck
section
variable {X : Cx} {Wx : WX} {k n : Nat} {c m : Str} {g : Addr} {fd : FuncData} {ps : List Str} {apos pos : Pos} {o e : Expr} {es : List Expr} {mo : M D} {ma : M (List D)} {F : List D → FR} {gD : List D → List D → List D} {pl : Sem Bool}
@[simp] def methMM (i : Nat) (c m : Str) (F : List Slot → FM) (sp : List (Option Nat)) (ma : M (List D)) : M Slot := fun ρ => match ρ[i]? with
  | some (.ownI c' ns _) => if c' = c ∧ m ∉ ns then (ma ρ).bd fun ds ρ1 => match mkArgs (some i :: sp) ds ρ1 with
    | some (ss, ρ2) => (F ss).res (some i :: sp) ρ2
    | none => .stuck
    else .stuck
  | _ => .stuck
end
end P
namespace P
open PySem PySem.Spec PyProof.Rows L2
def FR.val? : FR → Option D
  | .ok s => s.fz
  | _ => none
theorem spP_val {K : PySem.W.Frag} {S : List Addr} {H : Hp} {Q : VK} {E : XK} {f : List D → FR} {vs : List V} {ds : List D} {d : D} (al : ∀ a ∈ S, Al (H a)) (q : Reps K (hide H S) vs ds) (e : (f ds).val? = some d)
    (k : ∀ v H', Ex H H' → Rep K (hide H' S) v d → Q v H') : spP K f vs H Q E := by
  refine ⟨S, ds, al, q, ?_⟩
  unfold FR.val? at e
  revert e
  cases f ds with
  | stuck => exact fun e => nomatch e
  | er _ => exact fun e => nomatch e
  | ok s =>
    intro e v W' H' st rl
    obtain ⟨W2, st2, rl2⟩ := rl.fz e
    have st := st.trans st2
    refine k v H' (fun a o h => ?_) ?_
    · by_cases m : a ∈ S
      · rw [st.lk a m]; exact h
      · exact (hide_some (st.ex a o (by rw [List.nil_append, hide_out m]; exact h))).2
    · exact rl2.pop.2.mono (hide_mono (Ex.refl _) fun a h => .inl (by simp [h]))
section
variable {X : Cx} {k : Nat} {c : Str} {g : Addr} {fd : FuncData} {ps : List Str} {F : List D → FR}
theorem own_run {A : Around} {pins : List (Addr × Obj)} {σ : L2.St} {H : Hp} {s : Shared} {us : List Value} {vs : List V} {sp : Sp} {Q : VK} {Q' : Value → Shared → Prop} {E : Value → Shared → Prop} (G : FnG X.prog X.w X.K X.mg X.base k g fd ps sp) (hr : Rm k A) (hA : ∀ s, Env0 X.prog X.w X.K X.mg X.base X.A X.stack s H → Env0 X.prog X.w X.K X.mg X.base A X.stack s H)
    (hb : L2.Binds X.K fd ps []) (I : Inv X pins σ H s) (r : Vals vs us) (h : sp vs H Q fun _ _ _ => False) (q : ∀ u s' v H', Inv X pins σ H' s' → RelV v u → Q v H' → Q' u s') : wpAny (model X.prog X.w) A (call (.ref g) us) Q' E s := by
  have hl : (us ++ []).length = ps.length := by rw [List.append_nil, ← r.length]; exact G.len _ _ _ _ h
  have hb := hb s us I.kIn hl
  rw [List.append_nil] at hb
  refine wpAny_call (codeAny_mono (G.run A X.stack s H ⟨us, []⟩ us vs Q _ hr (hA s I.env0) hb r h) fun r s' hq => ?_)
  cases r with
  | error e => exact (cx_false hq).elim
  | ok fl =>
    cases fl with
    | ret u =>
      obtain ⟨v, H', I3, rv, q3⟩ := I.after hq
      exact q u s' v H' I3 rv q3
    | next => exact hq.elim
    | brk => exact hq.elim
    | cont => exact hq.elim
structure OwnF (K : PySem.W.Frag) (c m : Str) (g : Addr) : Prop where
  at_ : PySem.W.findIn K (.ref (He.ga K c)) m = some (some (.ref g))
  fn : PySem.W.isFn K (.ref g) = true
def lenI (c : Str) (F : List D → FR) : List D → Option D
  | [d] => if insI c d then (match (F [d]).val? with
    | some (.int n) => if 0 ≤ n ∧ n.natAbs < 9223372036854775808 then some (.int n) else none
    | _ => none) else none
  | _ => none
theorem insI_inv {c : Str} {d : D} (h : insI c d = true) : ∃ ns vs, d = .ins c ns vs := by
  cases d with
  | ins c' ns vs => have : c' = c := of_decide_eq_true h; subst this; exact ⟨ns, vs, rfl⟩
  | _ => cases h
theorem cd_lenI (o : OwnF X.K c "__len__" g) (G : FnG X.prog X.w X.K X.mg X.base k g fd ps (spP X.K F)) (hr : Rm (k + 1) X.A) (hb : L2.Binds X.K fd ps []) : CallD X (.builtin "len") (lenI c F) := by
  refine ⟨fun xs H Q => ∃ x a dx fs, xs = [x] ∧ x = .ref a ∧ H a = some (.ins (He.ga X.K c) dx fs) ∧ ClsF X.K c ∧ spP X.K F [x] H (fun v H' => ∃ n : Int, v = .int n ∧ 0 ≤ n ∧ n < 9223372036854775808 ∧ Q (.int n) H') fun _ _ _ => False, ?_, ?_⟩
  · intro pins s σ H xs us Q I r h
    obtain ⟨x, a, dx, fs, rfl, rfl, ha, Fc, h⟩ := h
    obtain ⟨u, rfl, ru⟩ := vals1 r
    obtain rfl : u = Value.ref a := ru
    obtain ⟨mA, O, _, _, _, _⟩ := ins_get I.hok ha
    obtain ⟨od, J, _⟩ := O.look
    obtain ⟨m, hF⟩ := I.fr
    refine PySem.W.len_K hF I.ok.mod.kin J o.at_ o.fn (own_run (us := [.ref a]) (vs := [.ref a]) G hr.in1 (fun s e => e.in1) hb I (.cons rfl .nil) h fun u s' v H' I3 rv q => ?_)
    obtain ⟨n, rfl, h0, h1, q⟩ := q
    obtain ⟨t, rfl⟩ := (show ∃ t, u = Value.int n t from rv)
    exact ⟨⟨h0, by omega⟩, ⟨.int n, H', I3.tok _, ⟨_, rfl⟩, q⟩⟩
  · intro S H xs ds d Q al r e kk
    unfold lenI at e
    split at e
    · rename_i d0
      split at e
      · rename_i hc
        obtain ⟨ns, vs, rfl⟩ := insI_inv hc
        split at e
        · rename_i n hn
          split at e
          · rename_i hh
            cases e
            obtain ⟨x, rfl, q⟩ := r.one
            obtain ⟨a, dx, fs, rfl, h, _, _, Fc⟩ := q.ins_inv
            refine ⟨_, a, dx, fs, rfl, rfl, (hide_some h).2, Fc, spP_val al (.cons q .nil) hn fun v H' ex rv => ?_⟩
            rw [rv.int_inv]
            exact ⟨n, rfl, hh.1, by omega, kk _ H' ex (.int n)⟩
          · cases e
        · cases e
      · cases e
    · cases e
def okEq (c : Str) : D → Bool
  | .ins c' _ _ => decide (c' = c)
  | .cls _ => false
  | _ => true
def cmpI (c : Str) (F : List D → FR) (neg : Bool) : D → D → Option D := fun x y => if insI c x && okEq c y then (match (F [x, y]).val? with
    | some (.bl b) => some (.bl (b != neg))
    | _ => none) else none
def rCmp (X : Cx) (c : Str) (F : List D → FR) (neg : Bool) : R2 := fun x y H Q => ∃ a dx fs t, x = .ref a ∧ H a = some (.ins (He.ga X.K c) dx fs) ∧ ClsF X.K c ∧ TyX X.K H y t ∧ PySem.W.notFirst X.K (He.ga X.K c) t = true ∧
  spP X.K F [x, y] H (fun v H' => ∃ b, v = .bl b ∧ Q (.bl (b != neg)) H') fun _ _ _ => False
theorem cmp_ok {neg : Bool} (hk : ∀ T ∈ (["NoneType", "bool", "int", "str", "tuple", "list", "dict"] : List String), PySem.W.subIn X.K (.type T) (.ref (He.ga X.K c)) = some false) : OpOk X.K (rCmp X c F neg) (cmpI c F neg) := by
  intro S H x y dx dy d Q al rx ry e kk
  unfold cmpI at e
  have : True := trivial
  · split at e
    · rename_i hc
      rw [Bool.and_eq_true] at hc
      obtain ⟨hcx, hy⟩ := hc
      obtain ⟨ns, vs, rfl⟩ := insI_inv hcx
      split at e
      · rename_i b hb
        cases e
        obtain ⟨a, ax, fs, rfl, h, _, _, Fc⟩ := rx.ins_inv
        have ht : ∃ t, TyX X.K H y t ∧ PySem.W.notFirst X.K (He.ga X.K c) t = true := by
          by_cases hi : ∀ c ns vs, dy ≠ .ins c ns vs
          · have hj : ∀ c, dy ≠ .cls c := fun c z => by subst z; cases hy
            refine ⟨_, ry.ty hide_ex hi hj, ?_⟩
            have hm : tyN dy ∈ (["NoneType", "bool", "int", "str", "tuple", "list", "dict"] : List String) := by
              cases dy with
              | ins c ns vs => exact absurd rfl (hi _ _ _)
              | cls c => exact absurd rfl (hj _)
              | _ => simp [tyN]
            unfold PySem.W.notFirst
            rw [hk _ hm]
            simp
          · cases dy with
            | ins c2 ns vs =>
              have : c2 = c := by simpa [okEq] using hy
              subst this
              refine ⟨_, (ry.tyI hide_ex).2, ?_⟩
              unfold PySem.W.notFirst
              simp
            | _ => exact absurd (fun _ _ _ z => by cases z) hi
        obtain ⟨t, h1, h2⟩ := ht
        refine ⟨a, ax, fs, t, rfl, (hide_some h).2, Fc, h1, h2, spP_val al (.cons rx (.cons ry .nil)) hb fun v H' ex rv => ?_⟩
        rw [rv.bl_inv]
        exact ⟨b, rfl, kk _ H' ex (.bl _)⟩
      · cases e
    · cases e
theorem opd_eqI (hk : ∀ T ∈ (["NoneType", "bool", "int", "str", "tuple", "list", "dict"] : List String), PySem.W.subIn X.K (.type T) (.ref (He.ga X.K c)) = some false) (o : OwnF X.K c "__eq__" g) (G : FnG X.prog X.w X.K X.mg X.base k g fd ps (spP X.K F)) (hr : Rm (k + 1) X.A) (hb : L2.Binds X.K fd ps []) :
    OpD X (compareOp .Eq) (cmpI c F false) := by
  refine ⟨rCmp X c F false, ?_, cmp_ok hk⟩
  intro pins s σ H x y v u Q I rx ry h
  obtain ⟨a, dx, fs, t, rfl, ha, Fc, ht, hn, h⟩ := h
  obtain rfl : v = Value.ref a := rx
  obtain ⟨mA, O, _, _, _, _⟩ := ins_get I.hok ha
  obtain ⟨od, J, _⟩ := O.look
  obtain ⟨m, hF⟩ := I.fr
  obtain ⟨P0, KX, hP, _⟩ := kit_of I ry ht
  show wpAny (model X.prog X.w) X.A (richCompare .Eq (.ref a) u) (EP X pins σ Q) X.xe s
  refine PySem.W.cmp_K (op := .Eq) (tb := t) hr.room.units0 hF I.ok.mod.kin J (KX.ty _ _ I.kIn hP) hn o.at_ o.fn (own_run (us := [.ref a, u]) (vs := [.ref a, y]) G (hr.le (Nat.le_succ _)) (fun s e => e) hb I (.cons rfl (.cons ry .nil)) h fun w s' z H' I3 rv q => ?_)
  obtain ⟨b, rfl, q⟩ := q
  obtain rfl : w = Value.bool b := rv
  exact ⟨.bl b, H', I3, rfl, by simpa using q⟩
end
section
variable {X : Cx} {k : Nat} {c : Str} {g : Addr} {fd : FuncData} {ps : List Str} {F : List D → FR}
end
end P
namespace P
open PySem PySem.Spec PyProof.Rows L2
@[simp] def callI (c : Str) (F : List D → FR) (n : Nat) (gD : List D → List D → List D) (mo : M D) (ma : M (List D)) : M Slot := fun ρ => (mo ρ).bd fun d ρ1 => if insI c d then (ma ρ1).bd fun ds ρ2 => if ds.length = n then (F (gD (d :: ds) [])).res ρ2 else .stuck else .stuck
section
variable {X : Cx} {Wx : WX} {k n : Nat} {c m : Str} {g : Addr} {fd : FuncData} {ps : List Str} {apos pos : Pos} {o e : Expr} {es : List Expr} {mo : M D} {ma : M (List D)} {F : List D → FR} {gD : List D → List D → List D}
@[simp] def makeV (i : Nat) (c : Str) (F : List Slot → FM) (n : Nat) (gD : List D → List D → List D) (ma : M (List D)) : M Slot := fun ρ => match ρ[i]? with
  | some (.val (.cls c')) => if c' = c then makeM c F n 0 gD ma nilA ρ else .stuck
  | _ => .stuck
theorem px_makeV {i m0 : Nat} {x : Str} {F : List Slot → FM} {p : Pos} (Fc : ClsF X.K c) (Mm : Mk X.K (He.ga X.K c) g)
    (G : FnG X.prog X.w X.K X.mg X.base k g fd ps (spM X.K (true :: List.replicate m0 false) F)) (hr : Rm (k + 1) X.A) (tk : L2N.Takes X Wx) (hb : KBs X.K fd ps n [] gD)
    (hgD : ∀ ds es, ds.length = n → es.length = 0 → (gD ds es).length = m0) (ha : PAs X Wx (e :: es) ma) (hN : X.N[i]? = some x := by rfl) (hv : Vis X.env.scope x := by first | exact Or.inl rfl | exact Or.inr (Or.inl rfl) | exact Or.inr (Or.inr rfl)) (hd : (x == ("__debug__" : Str)) = false := by decide)
    (hcd : (x == ("__classdict__" : Str)) = false := by decide) (he : starEach (e :: es) X.env = (false, eval e X.env) :: starEach es X.env := by rfl)
    (hpl : (backTo pos (starEach es X.env)).any (·.1) = false := by rfl) :
    PX X Wx (.Call (.Name x p) (e :: es) [] pos) (makeV i c F n gD ma) := by
  obtain ⟨gF, gV, hb, hD⟩ := hb.ex
  refine ⟨fun pins s σ H Q I h => ?_⟩
  obtain ⟨ρ, L, W, rl, p⟩ := h
  simp only [makeV] at p
  split at p
  · rename_i c' e0
    by_cases hc : c' = c
    · rw [if_pos hc] at p
      subst hc
      obtain ⟨v, hv1, hv2⟩ := rl.var e0
      have hv3 : v = .ref (He.ga X.K c') := by
        generalize hz : D.cls c' = d at hv2
        cases hv2 with
        | cls _ => cases hz; rfl
        | _ => cases hz
      subst hv3
      refine wpAny_Call_Name_kw (thn ((pe_var (X := X) (i := i) hN hv hd hcd).run pins s σ H (fun v H1 => v = .ref (He.ga X.K c') ∧ H1 = H) I ⟨_, hv1, rfl, rfl⟩) fun u s1 ⟨v, H1, I1, r1, q1⟩ => ?_)
      obtain ⟨rfl, rfl⟩ := q1
      cases r1
      have h := bd_A (T := Post X.K Wx σ L W H1 Q) (R := fun vs H1 => ∃ ds ρ1 W1, Rl X.K L W1 ρ1 σ H1 ∧ Reps X.K (hide H1 (W1 ++ L)) vs ds ∧ Post X.K Wx σ L W1 H1 Q (if ds.length = n ∧ ([] : List D).length = 0 then (match F (.ownI c' [] [] :: (gD ds []).map .val) with
        | .ok (.val .non) [s] => if s.isUnb then .stuck else .ok s ρ1
        | .er e _ => .er e ρ1
        | _ => .stuck) else .stuck)) rl p fun vs ds ρ1 W1 H1 st1 rl1 q1 p => ⟨ds, ρ1, W1, rl1, q1, p.step st1⟩
      refine PySem.W.callWith_K (h₀ := X.base) I.ok.mod.kin Mm.kp (thn (ha.run pos pins s1 σ H1 _ I1 h) fun us s2 ⟨vs, H2, I2, r, ds, ρ1, W1, rl1, q1, p⟩ => ⟨I2.kIn, ?_⟩) he hpl
      by_cases c1 : ds.length = n ∧ ([] : List D).length = 0
      · rw [if_pos c1] at p
        refine run_makeG (ks := []) (ws := []) (zs := []) Mm G hr hb tk I2 r .nil (q1.length.trans c1.1) rfl fun x dx hx hd hn => ?_
        obtain ⟨ys, e1, e2⟩ := hD _ (.ref x) _ _ _ _ q1 .nil
        rw [e1]
        exact make_use rl1 Fc e2 (hgD _ _ c1.1 c1.2) p x dx hx hd hn
      · rw [if_neg c1] at p
        exact p.elim
    · rw [if_neg hc] at p; exact p.elim
  · exact p.elim
def conD (c f : Str) (v : D) : D → Option D
  | .ins c' ns _ => if c' = c ∧ f ∉ ns then some v else none
  | _ => none
@[simp] def conM (c f : Str) (v : D) (ma : M D) : M D := fun ρ => (ma ρ).bd fun d ρ1 => ofO (conD c f v d) ρ1
theorem callWith_MKW {M : Model} {A : Around} {E : Value → Shared → Prop} {s : Shared} {K : PySem.W.Frag} {env : PySem.Env} {pos : Pos} {first : List Value} {Q : Value → Shared → Prop} {q g : Addr} {self : Value} {e : Expr} {rest : List Expr} {kws : List Keyword} (hf : PySem.W.fnIn K g = true) (hall : (backToKw pos (keywordEach kws env)).all (·.1.isSome) = true)
    (h : wpAny M A (spliced (backTo pos (starEach (e :: rest) env))) (fun vs s₁ => wpAny M A (evalAll ((backToKw pos (keywordEach kws env)).map (·.2)))
      (fun ks s₂ => PySem.W.MethP K q g self s₂.heap ∧ wpAny M A (call (.ref q) (first ++ vs) (((backToKw pos (keywordEach kws env)).filterMap (·.1)).zip ks)) Q E s₂) E s₁) E s)
    (hplain : ((backTo pos (starEach (e :: rest) env)).any (·.1) || (backToKw pos (keywordEach kws env)).any (·.1.isNone)) = false) (he : starEach (e :: rest) env = (false, eval e env) :: starEach rest env) :
    wpAny M A (callWith pos (.ref q) first (backTo pos (starEach (e :: rest) env)) (backToKw pos (keywordEach kws env))) Q E s :=
  PySem.W.callWith_of hplain (PySem.W.keeps_M hf) (PyProof.Rows.evalArgs_kw2 hall h he)
@[simp] def cmM (c : Str) (F : List D → FR) (n m : Nat) (gD : List D → List D → List D) (ma mk : M (List D)) : M Slot := fun ρ => (ma ρ).bd fun ds ρ1 => (mk ρ1).bd fun es ρ2 =>
  if ds.length = n ∧ es.length = m then (F (gD (.cls c :: ds) es)).res ρ2 else .stuck
theorem run_cmG {ks : List Str} {q p0 : Addr} {sp : Sp} {σ : L2.St} {H : Hp} {Q : VK} {pins : List (Addr × Obj)} {s : Shared} {us ws : List Value} {vs zs : List V} {gF : List Value → List Value → List Value} {gV : List V → List V → List V}
    (G : FnG X.prog X.w X.K X.mg X.base k g fd ps sp) (hr : Rm k X.A) (tk : L2N.Takes X Wx) (hb : KBn X.K fd ps (n + 1) ks gF gV) (I : Inv X ((q, PySem.W.methodObj (.ref g) (.ref (He.ga X.K c))) :: pins) σ H s) (r : Vals vs us) (rz : Vals zs ws) (l1 : vs.length = n) (l2 : zs.length = ks.length)
    (h : sp (gV (.ref (He.ga X.K c) :: vs) zs) H Q fun c d H' => Wx c d σ H') : wpAny (model X.prog X.w) X.A (call (.ref q) us (ks.zip ws)) (EP X pins σ Q) X.xe s := by
  have r1 : Vals (V.ref (He.ga X.K c) :: vs) (Value.ref (He.ga X.K c) :: us) := .cons rfl r
  have e1 : (Value.ref (He.ga X.K c) :: us).length = n + 1 := r1.length.symm.trans (congrArg Nat.succ l1)
  have e2 : ws.length = ks.length := rz.length.symm.trans l2
  have z : wpAny (model X.prog X.w) X.A (call (.ref q) us (ks.zip ws)) (EP X ((q, PySem.W.methodObj (.ref g) (.ref (He.ga X.K c))) :: pins) σ Q) X.xe s := by
    refine wpAny_call (PySem.W.method_call (ClX.pin_at I) (codeAny_mono (G.run X.A X.stack s H ⟨.ref (He.ga X.K c) :: us, ks.zip ws⟩ _ _ Q _ hr I.env0 (hb.to s _ ws I.kIn e1 e2) (hb.rel r1 rz) h) fun r s' hq => ?_))
    cases r with
    | error e => exact L2N.passAt tk σ _ H s e s' I hq
    | ok fl =>
      cases fl with
      | ret u => exact I.after hq
      | next => exact hq.elim
      | brk => exact hq.elim
      | cont => exact hq.elim
  exact thn z fun _ _ y => ClX.unpinE y
theorem px_cm {ks : List Str} {mc : Value} {p0 : Addr} {p1 : Pos} {kws : List Keyword} {mk : M (List D)} {pl : Sem Bool} (cr : ClX.CRead X.K (He.ga X.K c) mc) (cm : ClX.CMet X.K (He.ga X.K c) mc m p0 g) (G : FnG X.prog X.w X.K X.mg X.base k g fd ps (spP X.K F)) (hr : Rm k X.A) (tk : L2N.Takes X Wx) (hb : KBd X.K fd ps (n + 1) ks gD)
    (gC : X.mg c = some (.ref (He.ga X.K c))) (ha : PAs X Wx (e :: es) ma) (hkw : PKs X Wx kws mk) (hall : (backToKw pos (keywordEach kws X.env)).all (·.1.isSome) = true := by rfl) (hks : (backToKw pos (keywordEach kws X.env)).filterMap (·.1) = ks := by rfl)
    (hg : Gl X c := by rfl) (hdb : (c == ("__debug__" : Str)) = false := by decide) (he : starEach (e :: es) X.env = (false, eval e X.env) :: starEach es X.env := by rfl)
    (hpl : ((backTo pos (starEach (e :: es) X.env)).any (·.1) || (backToKw pos (keywordEach kws X.env)).any (·.1.isNone)) = false := by rfl)
    (ht : eval (.Call (.Attribute (.Name c p1) m apos) (e :: es) kws pos) X.env = (do
      let ov ← eval (.Name c p1) X.env
      standAt apos.atName
      let (f, first) ← holding [ov] (getMethod ov m pl)
      callWith pos f first (backTo pos (starEach (e :: es) X.env)) (backToKw pos (keywordEach kws X.env))) := by rfl) :
    PX X Wx (.Call (.Attribute (.Name c p1) m apos) (e :: es) kws pos) (cmM c F n ks.length gD ma mk) := by
  obtain ⟨gF, gV, hb, hD⟩ := hb.ex
  refine ⟨fun pins s σ H Q I h => ?_⟩
  obtain ⟨ρ, L, W, rl, p⟩ := h
  refine PySem.W.methodCall_KW (pl := pl) (ld_glob I hg gC ?_ hdb) ht
  refine ClX.getmethcm_ok I cr cm fun s1 I1 => ?_
  have h := bd_A (T := Post X.K Wx σ L W H Q) (R := fun vs H1 => ∃ ds ρ1 W1, Rl X.K L W1 ρ1 σ H1 ∧ Reps X.K (hide H1 (W1 ++ L)) vs ds ∧ Post X.K Wx σ L W1 H1 Q ((mk ρ1).bd fun es ρ2 => if ds.length = n ∧ es.length = ks.length then (F (gD (.cls c :: ds) es)).res ρ2 else .stuck)) rl p fun vs ds ρ1 W1 H1 st1 rl1 q1 p => ⟨ds, ρ1, W1, rl1, q1, p.step st1⟩
  refine callWith_MKW (self := .ref (He.ga X.K c)) cm.fi hall (thn (ha.run pos _ s1 σ H _ I1 h) fun us s2 ⟨vs, H1, I2, r, ds, ρ1, W1, rl1, q1, p⟩ => ?_) hpl he
  have h2 := bd_A (T := Post X.K Wx σ L W1 H1 Q) (R := fun zs H2 => ∃ es ρ2 W2, Rl X.K L W2 ρ2 σ H2 ∧ Reps X.K (hide H2 (W2 ++ L)) (.ref (He.ga X.K c) :: vs) (.cls c :: ds) ∧ Reps X.K (hide H2 (W2 ++ L)) zs es ∧ Post X.K Wx σ L W2 H2 Q (if ds.length = n ∧ es.length = ks.length then (F (gD (.cls c :: ds) es)).res ρ2 else .stuck)) rl1 p fun zs es ρ2 W2 H2 st2 rl2 q2 p => ⟨es, ρ2, W2, rl2, .cons (.cls c) (st2.reps q1), q2, p.step st2⟩
  refine thn (hkw.run pos _ s2 σ H1 _ I2 h2) fun ws s3 ⟨zs, H2, I3, rz, es, ρ2, W2, rl2, q1, q2, p⟩ => ⟨⟨ClX.pin_at I3, I3.kIn⟩, ?_⟩
  rw [hks]
  by_cases c1 : ds.length = n ∧ es.length = ks.length
  · rw [if_pos c1] at p
    exact run_cmG (p0 := p0) G hr tk hb I3 r rz (by have := q1.length; simp at this; omega) (q2.length.trans c1.2) (spP_use rl2 (hD _ _ _ _ _ q1 q2) p)
  · rw [if_neg c1] at p
    exact p.elim
end
end P
namespace P
open PySem PySem.Spec PyProof.Rows L2 He
abbrev Fq : Type := PySem.W.Frag → Bool
def obsF (fs : List Fq) (fn : List He5.DefA) (K : PySem.W.Frag) : He.AlD := ((fs.all fun f => f K) && fn.all fun d => d.ok K, fn.map fun d => He5.fnA K (d.at_ K))
def valF (fn : List He5.DefA) : He.AlD := (true, fn.map He5.DefA.val)
def SaysF (fs : List Fq) (fn : List He5.DefA) (K : PySem.W.Frag) : Prop := obsF fs fn K = valF fn
section
variable {fs : List Fq} {fn : List He5.DefA} {K : PySem.W.Frag}
theorem SaysF.fact (c : SaysF fs fn K) (i : Nat) {f : Fq} (h : fs[i]? = some f := by rfl) : f K = true := by
  have c1 := (ba (show ((fs.all fun f => f K) && fn.all fun d => d.ok K) = true from congrArg (fun z : He.AlD => z.1) c)).1
  exact List.all_eq_true.mp c1 f (List.mem_of_getElem? h)
theorem SaysF.def_ (c : SaysF fs fn K) (i : Nat) {d : He5.DefA} (h : fn[i]? = some d := by rfl) : ∃ fd, L2.FunD K d.name d.qual d.params d.body d.scope (d.dvs K) (d.kws K) (d.at_ K) fd := by
  have c2 := (ba (show ((fs.all fun f => f K) && fn.all fun d => d.ok K) = true from congrArg (fun z : He.AlD => z.1) c)).2
  have e : fn.map (fun d => He5.fnA K (d.at_ K)) = fn.map He5.DefA.val := congrArg (fun z : He.AlD => z.2) c
  have e2 : (fn.map fun d => He5.fnA K (d.at_ K))[i]? = (fn.map He5.DefA.val)[i]? := by rw [e]
  rw [List.getElem?_map, List.getElem?_map, h] at e2
  exact He5.DefA.funD (Option.some.inj e2) (List.all_eq_true.mp c2 d (List.mem_of_getElem? h))
end
def fq (f : He.Fa) : Fq := fun K => f.ok K
def tys6 : List String := ["int", "bool", "str", "tuple", "list", "dict"]
def tys7 : List String := ["NoneType", "bool", "int", "str", "tuple", "list", "dict"]
def clsB (c : Str) : Fq := fun K => (He.Fa.cls c).ok K && (eqO (PySem.W.findIn K (.ref (ga K c)) "__class__") (some (some (.builtin "object.__class__"))) && (eqO (PySem.W.specialIn K (.builtin "object.__class__") "__get__") (some (some (.builtin "getset_descriptor.__get__"))) &&
  (decide (PySem.W.takesIn K (.builtin "object.__class__") = some true) && (decide (PySem.W.mroIn K (ga K c) (.type "object") = some true) && (tys6.all (fun T => decide (PySem.W.kitOne K (.ref (ga K c)) (.type T) = some false)) &&
  (tys7.all (fun T => decide (PySem.W.kitOne K (.type T) (.ref (ga K c)) = some false)) && decide (PySem.W.kitOne K (.ref (ga K c)) (.ref (ga K c)) = some true)))))))
section
variable {K : PySem.W.Frag} {c f m : Str}
theorem cls_of (h : (He.Fa.cls c).ok K = true) : Cls K (ga K c) := by
  obtain ⟨h1, h⟩ := ba (show (PySem.W.plainGet K (ga K c) Str.empty && (PySem.W.hasDictIn K (ga K c) && (PySem.W.plainOver K (ga K c) && eqO (PySem.W.findIn K (.ref (ga K c)) "__setattr__") (some (some (.builtin "object.__setattr__")))))) = true from h)
  obtain ⟨h2, h⟩ := ba h
  obtain ⟨h3, h4⟩ := ba h
  exact ⟨h1, h2, h3, eqO_ok h4⟩
theorem clsB_ok (h : clsB c K = true) : ClsF K c := by
  obtain ⟨h1, h⟩ := ba h
  obtain ⟨h2, h⟩ := ba h
  obtain ⟨h3, h⟩ := ba h
  obtain ⟨h4, h⟩ := ba h
  obtain ⟨h5, h⟩ := ba h
  obtain ⟨h6, h⟩ := ba h
  obtain ⟨h7, h8⟩ := ba h
  exact ⟨cls_of h1, eqO_ok h2, eqO_ok h3, of_decide_eq_true h4, of_decide_eq_true h5, fun T hT => of_decide_eq_true (List.all_eq_true.mp h6 T hT), fun T hT => of_decide_eq_true (List.all_eq_true.mp h7 T hT), of_decide_eq_true h8⟩
theorem noat_of (h : (He.Fa.noat c f).ok K = true) : NoAttr K (ga K c) f := eqO_ok h
theorem mkr_of (h : (He.Fa.mkr c).ok K = true) : Mk K (ga K c) (ma K (ga K c) "__init__") := by
  obtain ⟨h1, h⟩ := ba (show (PySem.W.makesIn K (ga K c) && (eqO (PySem.W.findIn K (.ref (ga K c)) "__init__") (some (some (.ref (ma K (ga K c) "__init__")))) && (PySem.W.isFn K (.ref (ma K (ga K c) "__init__")) && PySem.W.keepIn K (.ref (ga K c))))) = true from h)
  obtain ⟨h2, h⟩ := ba h
  obtain ⟨h3, h4⟩ := ba h
  exact ⟨h1, eqO_ok h2, h3, h4⟩
theorem meth_of (h : (He.Fa.meth c m).ok K = true) : Meth K (ga K c) m (ma K (ga K c) m) := by
  obtain ⟨h1, h⟩ := ba (show (eqO (PySem.W.findIn K (.ref (ga K c)) m) (some (some (.ref (ma K (ga K c) m)))) && (PySem.W.isFn K (.ref (ma K (ga K c) m)) && PySem.W.keepIn K (.ref (ma K (ga K c) m)))) = true from h)
  obtain ⟨h2, h3⟩ := ba h
  exact ⟨eqO_ok h1, h2, h3⟩
theorem own_of (h : (He.Fa.meth c m).ok K = true) : OwnF K c m (ma K (ga K c) m) := ⟨(meth_of h).at_, (meth_of h).fn⟩
def pg (K : PySem.W.Frag) (c f : Str) : Addr := He5.wf K (ga K c) "property" f
def propB (c f : Str) : Fq := fun K => eqO (PySem.W.findIn K (.ref (ga K c)) f) (some (some (.ref (ma K (ga K c) f)))) && (eqO (PySem.W.specialIn K (.ref (ma K (ga K c) f)) "__get__") (some (some (.builtin "property.__get__"))) && (decide (PySem.W.takesIn K (.ref (ma K (ga K c) f)) = some true) &&
  (match PySem.W.recIn K (ma K (ga K c) f) "property" with
    | some (.ref _ :: _) => true
    | _ => false)))
theorem prop_of (h : propB c f K = true) : PropOf K (ga K c) f (ma K (ga K c) f) (pg K c f) := by
  obtain ⟨h1, h⟩ := ba h
  obtain ⟨h2, h⟩ := ba h
  obtain ⟨h3, h4⟩ := ba h
  refine ⟨eqO_ok h1, eqO_ok h2, of_decide_eq_true h3, ?_⟩
  unfold pg He5.wf
  split at h4
  · rename_i a r e
    exact ⟨r, by rw [e]⟩
  · cases h4
def cg (K : PySem.W.Frag) (c m : Str) : Addr := He5.wf K (ga K c) "classmethod" m
def cmB (c m : Str) : Fq := fun K => He5.wrapB K (ga K c) "classmethod" "classmethod.__get__" m && PySem.W.fnIn K (cg K c m)
theorem cm_of (h : cmB c m K = true) : ClX.CMet K (ga K c) (.type "type") m (ma K (ga K c) m) (cg K c m) := He5.cmet_of (ba h).1 (ba h).2
def readB (c : Str) : Fq := fun K => PySem.W.readsIn K (ga K c) (.type "type")
theorem cread_of (h : readB c K = true) : ClX.CRead K (ga K c) (.type "type") := by
  have h0 := h
  unfold readB PySem.W.readsIn at h
  obtain ⟨h, _⟩ := ba h
  obtain ⟨h, _⟩ := ba h
  obtain ⟨h, h3⟩ := ba h
  obtain ⟨_, h2⟩ := ba h
  refine ⟨h0, ?_⟩
  unfold PySem.W.specialIn
  rw [beq_iff_eq.mp h2, Option.bind_some]
  exact beq_iff_eq.mp h3
def subB (c : Str) : Fq := fun K => tys7.all (fun T => decide (PySem.W.subIn K (.type T) (.ref (ga K c)) = some false)) && (eqO (PySem.W.findIn K (.ref (ga K c)) "__ne__") (some (some (.builtin "object.__ne__"))) && decide (PySem.W.subIn K (.ref (ga K c)) (.type "object") = some true))
theorem sub_of (h : subB c K = true) : (∀ T ∈ (["NoneType", "bool", "int", "str", "tuple", "list", "dict"] : List String), PySem.W.subIn K (.type T) (.ref (ga K c)) = some false) ∧ PySem.W.findIn K (.ref (ga K c)) "__ne__" = some (some (.builtin "object.__ne__")) ∧ PySem.W.subIn K (.ref (ga K c)) (.type "object") = some true := by
  obtain ⟨h1, h⟩ := ba h
  obtain ⟨h2, h3⟩ := ba h
  exact ⟨fun T hT => of_decide_eq_true (List.all_eq_true.mp h1 T hT), eqO_ok h2, of_decide_eq_true h3⟩
end
end P
namespace P
open PySem PySem.Spec PyProof.Rows L2
section
variable {X : Cx} {Wx : WX} {J : List Nat}
@[simp] def extM (i : Nat) (m : M D) : M D := withL i m fun ds d ρ => match d with
  | .lst es => if ds.length + es.length < 1000000 then .ok .non (ρ.set i (ownV (ds ++ es))) else .stuck
  | _ => .stuck
@[simp] def augS (i : Nat) (g : D → D → Option D) (m : M D) : S := fun ρ => match ρ[i]? with
  | some (.val (.int a)) => Out.of ((m ρ).bd fun d ρ1 => match g (.int a) d with
    | some r => .ok (.nx (ρ1.set i (.val r))) ρ1
    | none => .stuck)
  | _ => .stuck
theorem Rl.forget {K : PySem.W.Frag} {L W : List Addr} {ρ : Env} {σ : L2.St} {H : Hp} (r : Rl K L W ρ σ H) (i : Nat) : ∃ W', Stp L W H W' H ∧ Rl K L W' (ρ.set i .unb) σ H := by
  obtain ⟨A, B, C, e, h⟩ := r.rel.drop i Option.none
  by_cases hl : i < σ.length
  · have h2 : RelE K (hide H (W ++ L)) H (A ++ C) σ (ρ.set i .unb) := by
      refine RelE.loose i (o := Option.none) (o' := σ[i]) (by simpa using h) (fun s hs => ?_) (List.getElem?_eq_getElem hl)
      rw [List.getElem?_set_self (by have := r.rel.length; omega)] at hs
      exact (Option.some.inj hs).symm
    have z := r.less e h2
    exact ⟨_, z.2, z.1⟩
  · rw [List.set_eq_of_length_le (by have := r.rel.length; omega)]
    exact ⟨W, .refl, r⟩
theorem Rl.forgets {K : PySem.W.Frag} {L : List Addr} {σ : L2.St} {H : Hp} : ∀ (js : List Nat) {W : List Addr} {ρ : Env}, Rl K L W ρ σ H → ∃ W', Stp L W H W' H ∧ Rl K L W' (wipeP ρ js) σ H
  | [], W, ρ, r => ⟨W, .refl, r⟩
  | j :: js, W, ρ, r => by
    obtain ⟨W1, st1, r1⟩ := Rl.forgets js r
    obtain ⟨W2, st2, r2⟩ := r1.forget j
    exact ⟨W2, st1.trans st2, r2⟩
@[simp] def fgtO (js : List Nat) : Out → Out
  | .nx ρ => .nx (wipeP ρ js)
  | .ct ρ => .ct (wipeP ρ js)
  | .bk ρ => .bk (wipeP ρ js)
  | o => o
@[simp] def fgt (js : List Nat) (m : S) : S := fun ρ => fgtO js (m ρ)
theorem PostS.fgt {K : PySem.W.Frag} {σ : L2.St} {L W : List Addr} {H : Hp} {E : Ends} {js : List Nat} : ∀ {o : Out}, PostS K Wx J σ L W H E (fgtO js o) → PostS K Wx J σ L W H E o
  | .nx ρ, p => fun σ' W' H' ag st rl => let ⟨W2, st2, r2⟩ := Rl.forgets js rl; p σ' W2 H' ag (st.trans st2) r2
  | .ct ρ, p => fun σ' W' H' ag st rl => let ⟨W2, st2, r2⟩ := Rl.forgets js rl; p σ' W2 H' ag (st.trans st2) r2
  | .bk ρ, p => fun σ' W' H' ag st rl => let ⟨W2, st2, r2⟩ := Rl.forgets js rl; p σ' W2 H' ag (st.trans st2) r2
  | .rt _ _, p => p
  | .er _ _, p => p
  | .stuck, p => p
theorem psl_fgt {sts : List Stmt} {m : S} (js : List Nat) (h : PSL X Wx J sts m) : PSL X Wx J sts (fgt js m) := by
  refine PSs_imp h fun E σ H h => ?_
  obtain ⟨ρ, L, W, rl, p⟩ := h
  exact ⟨ρ, L, W, rl, PostS.fgt p⟩
end
end P
namespace P
open PySem PySem.Spec PyProof.Rows L2
section
variable {prog : Program} {w : World} {A : Around} {E : Value → Shared → Prop} {s : Shared}
end
@[simp] def revD : D → Option D
  | .lst ds => some (.lst ds.reverse)
  | .tup ds => some (.tup ds.reverse)
  | _ => none
section
variable {X : Cx} {Wx : WX}
end
end P
namespace P
open PySem PySem.Spec PyProof.Rows L2
theorem pi_or {X : Cx} {tg iter : Expr} {t t' : TI} (h : PI X tg iter t) (h' : PI X tg iter t') : PI X tg iter (fun σ H R => t σ H R ∨ t' σ H R) := ⟨fun pins s σ H R I q => q.elim (h.run pins s σ H R I) (h'.run pins s σ H R I)⟩
def itA : D → Option (List D)
  | .lst ds => some ds
  | .tup ds => some ds
  | .scr ns => some (ns.map .int)
  | _ => none
@[simp] theorem itA_l {ds : List D} : itA (.lst ds) = some ds := rfl
@[simp] theorem itA_t {ds : List D} : itA (.tup ds) = some ds := rfl
@[simp] theorem itA_c {ns : List Int} : itA (.scr ns) = some (ns.map .int) := rfl
section
variable {X : Cx} {Wx : WX}
theorem pit_any {tg e : Expr} {m : M D} (h : PD X Wx e m) : PIt X Wx tg e (iterM itA m) := by
  refine PI_imp (pi_or (pit_list h) (pit_tup h)) fun σ H R hq => ?_
  obtain ⟨ρ, L, W, rl, p⟩ := hq
  have c : PostI X.K Wx σ L W H R (iterM itL m ρ) ∨ PostI X.K Wx σ L W H R (iterM itT m ρ) := by
    unfold iterM at p ⊢
    revert p
    cases m ρ with
    | stuck => exact fun p => p.elim
    | er e ρ' => exact fun p => .inl p
    | ok d ρ' =>
      cases d with
      | lst ds => exact fun p => .inl p
      | tup ds => exact fun p => .inr p
      | scr ns => exact fun p => .inl p
      | _ => exact fun p => p.elim
  exact c.imp (fun p => ⟨ρ, L, W, rl, p⟩) fun p => ⟨ρ, L, W, rl, p⟩
end
set_option maxHeartbeats 4000000 in
theorem enum_newB {v : Value} {o : Obj} {H : Heap → Prop} (B : Begins v o H) :
    Meets (Builtin.«enumerate.__new__» ⟨[.type "enumerate", v], []⟩) (fun _ R s => H s.heap ∧
      R (.ok (.ret (.ref (s.heap.push o).objs.size))) { s with heap := (s.heap.push o).push { cls := .type "enumerate", data := .fields #[.none, .bool false, .ref s.heap.objs.size, rawInt 0, .none, .none] } }) :=
  .of_wp fun prog w A R s h => by
    obtain ⟨hp, g, d, tk, os⟩ := s; obtain ⟨h1, h⟩ := h
    have hsub := sub_enumerate
    have q1 : ∀ {A' : Around} {E : Value → Shared → Prop} {Q : Value → Shared → Prop}, Q (.ref hp.objs.size) ⟨hp.push o, g, d, tk, os⟩ → wpAny (model prog w) A' (pyIter v) Q E ⟨hp, g, d, tk, os⟩ :=
      fun q => B.iter prog w _ _ ⟨hp, g, d, tk, os⟩ _ h1 q
    wp_walk using q1
    refine wpAny_stack_any fun st => wpAny_pure ?_
    split
    · rename_i c _ _ _ _ _
      cases (c == Value.type "enumerate")
      · wp_walk using q1
        exact ⟨_, rfl, h⟩
      · wp_walk using q1
        exact ⟨_, rfl, h⟩
    · wp_walk using q1
      exact ⟨_, rfl, h⟩
section
variable {prog : Program} {w : World} {A : Around} {E : Value → Shared → Prop} {s : Shared}
theorem enum_begins1 {v : Value} {o : Obj} {H : Heap → Prop} {Q : Value → Shared → Prop} (B : Begins v o H) (h1 : H s.heap)
    (h : ∀ h', IsEnum h' (s.heap.objs.size + 1) s.heap.objs.size 0 .none → h'.get? s.heap.objs.size = some o → h'.objs.size = s.heap.objs.size + 2 →
      (∀ b o, s.heap.get? b = some o → h'.get? b = some o) → Q (.ref (s.heap.objs.size + 1)) { s with heap := h' }) :
    wpAny (model prog w) A (call (.type "enumerate") [v]) Q E s := by
  refine callType_new F.called_enumerate (by decide) (F.typeCall_enumerate_1 _) (F.newCall_enumerate_1 _) (fun obj => F.args_object_init_2 obj _) F.entry_enumerate_new
    (enum_newB B) ⟨h1, ?_⟩
  have hz : (s.heap.push o).objs.size = s.heap.objs.size + 1 := Heap.size_push ..
  show _ ∧ _
  rw [hz]
  have he : IsEnum ((s.heap.push o).push { cls := .type "enumerate", data := .fields #[.none, .bool false, .ref s.heap.objs.size, rawInt 0, .none, .none] }) (s.heap.objs.size + 1) s.heap.objs.size 0 .none := by
    have := Heap.get?_push_size (s.heap.push o) (o := { cls := .type "enumerate", data := .fields #[.none, .bool false, .ref s.heap.objs.size, rawInt 0, .none, .none] }) rfl
    rw [hz] at this; exact this
  refine ⟨⟨_, he, rfl⟩, h _ he (Heap.get?_push_of_some _ (Heap.get?_push_size _ B.free)) (by rw [Heap.size_push, hz]) fun b o x => Heap.get?_push_of_some _ (Heap.get?_push_of_some _ x)⟩
end
def IteT (K : PySem.W.Frag) (a : Addr) : It :=
  ⟨fun i H => ∃ (xs : List V) (x : V), SqT K H a xs ∧ xs[i]? = some x, fun i H v H' => ∃ T x, v = .ref T ∧ H T = none ∧ H' = L2.upd H T (.tup [.int (i : Nat), x]) ∧ ∀ xs, SqT K H a xs → xs[i]? = some x, fun i H => ∃ xs : List V, SqT K H a xs ∧ xs.length ≤ i⟩
theorem turn_enumT {P : Program} {w : World} {K : PySem.W.Frag} {elts : List Expr} {kk : Nat} {tpos : Pos} (a e it : Addr) :
    Turn P w K (.Tuple elts kk tpos) (IteT K a) [e, it] e (fun i h => (∃ old, IsEnum h e it ((i : Nat) : Int) old) ∧ h.IsTupleIter it a i ∧ e ≠ it ∧ a ≠ it ∧ a ≠ e) where
  mem := by simp
  obj := fun i h st b hb => by
    obtain ⟨⟨old, he⟩, ⟨o, ho, hc, hd⟩, _⟩ := st
    have e' : b = e ∨ b = it := by simpa using hb
    rcases e' with z | z
    · rw [z]; exact ⟨_, he, fun v q => nomatch q⟩
    · rw [z]; exact ⟨o, ho, fun v q => by rw [hd] at q; cases q⟩
  keep := fun i h h' st k => let ⟨⟨old, he⟩, hi, hne⟩ := st; ⟨⟨old, k e (by simp) _ he⟩, hi.at fun o q => k it (by simp) o q, hne⟩
  item := by
    intro X hP hw hK hc i pins s σ H E I hf st hg
    subst hP hw hK
    obtain ⟨⟨old, he⟩, hit, hne, hai, hae⟩ := st
    obtain ⟨xs, x, hq, hx⟩ := hg
    obtain ⟨its, rv, p, hz⟩ := I.tuple hq
    obtain ⟨u, hu, ru⟩ := rv.get hx
    have hel : e < s.heap.objs.size := Heap.lt_size he
    have hil : it < s.heap.objs.size := by obtain ⟨_, q, _⟩ := hit; exact Heap.lt_size q
    have hu2 : its.toArray[i]? = some u := by simpa using hu
    have hlt : i < its.toArray.size := by
      have := (Array.getElem?_eq_some_iff.mp hu2).1
      exact this
    have D := Draws.tuple (prog := X.prog) (w := X.w) (A := X.A.in1) (I.ok.hd hc) it a hai its.toArray
    refine wpAny_pyNext_enum_itemD D he ⟨hit, p⟩ hlt hne (by simp [hne, Ne.symm hae]) fun x' h' tk hP ho hst' hT hsz hk => ?_
    obtain ⟨hit', _⟩ := hst'
    have hxu : x' = u := Option.some.inj (hP.symm.trans hu2)
    subst hxu
    refine ⟨_, rfl, wpAny_letOwnedTupleGo_enum (s := { s with heap := h', toks := tk + 1 }) ho fun h'' he' sb => ?_⟩
    have hT2 : h''.get? s.heap.objs.size = some { cls := .type "tuple", data := .seq #[.int i tk, x'] } := (sb.2 _ (Nat.ne_of_gt hel)).trans hT
    have new : ObjOk X.prog X.w (L2.upd H s.heap.objs.size (.tup [.int (i : Nat), x])) h'' s.heap.objs.size (.tup [.int (i : Nat), x]) :=
      ⟨by show 2 ≤ sizeLine; decide, [.int i tk, x'], .cons ⟨_, rfl⟩ (.cons ru .nil), ⟨_, hT2, rfl, _, rfl⟩⟩
    have I1 : Inv X pins σ (L2.upd H s.heap.objs.size (.tup [.int (i : Nat), x])) { s with heap := h'', toks := tk + 1 } :=
      I.turnedNew (ch := [e, it]) (fun b ob hb q => (sb.2 b (fun z => hb (by simp [z]))).trans (hk b ob (fun z => hb (by simp [z])) (fun z => hb (by simp [z])) q)) hf (Nat.le_refl _) new
    refine ⟨.ref s.heap.objs.size, _, I1, rfl, ⟨_, x, rfl, I.hok.fresh (Nat.le_refl _), rfl, fun ys hy => ?_⟩, ⟨⟨x', ?_⟩, hit'.at fun o q => (sb.2 it (Ne.symm hne)).trans q, hne, hai, hae⟩, fun b hb => ?_⟩
    · have e5 : ys = xs := I.tuple_inj hy hq
      rw [e5]; exact hx
    · have e1 : ((i + 1 : Nat) : Int) = (i : Int) + 1 := by omega
      rw [e1]; exact he'
    · have hb' : b < s.heap.objs.size := by
        have e' : b = e ∨ b = it := by simpa using hb
        rcases e' with z | z
        · rw [z]; exact hel
        · rw [z]; exact hil
      rw [upd_ne (Nat.ne_of_lt hb')]
      exact (hf b hb).1
  done := by
    intro X hP hw hK hc i pins s σ H E I hf st hg
    subst hP hw hK
    obtain ⟨⟨old, he⟩, hit, hne, hai, hae⟩ := st
    obtain ⟨xs, hq, hx⟩ := hg
    obtain ⟨its, rv, p, hz⟩ := I.tuple hq
    obtain ⟨f0, f1, f2, f3, f4, f5⟩ := hf it (by simp)
    have hl := rv.length
    have hT : s.TypeIs (.ref e) "enumerate" := ⟨_, he, rfl⟩
    unfold pyNext
    refine wpAny_bind (wpAny_attempt (wpAny_callSpecial?_slot (name := Str.ofString "__next__") hT F.slot_enumerate_next (wpAny_call_entry F.slot_enumerate_next hT F.entry_enumerate_next ?_ (F.args_enumerate_next_1 _))))
    show wpAny _ _ (field (.ref e) 2 >>= _) _ _ _
    refine wpAny_bind (wpAny_field he rfl (x := .ref it) rfl ?_)
    refine wpAny_bind (wpAny_nextOf_tuple_end (A := X.A.in1) (I.ok.hd hc) hit p (by simp; omega) fun h' x eb hx' => ?_)
    obtain ⟨o, ho, hc'⟩ := hx'
    refine wpAny_bind (wpAny_isInstance (T := "StopIteration") (b := true) ⟨o, ho, hc'⟩ isSubtype_stop ?_)
    exact wpAny_pure ⟨rfl, I.turned (t' := s.toks) (fun b o hb q => eb b o hb q) f0 f1 f3 f4 f5⟩
  self := fun A i s Q E st h => let ⟨⟨_, he⟩, _⟩ := st; wpAny_pyIter_enum he h
def iEnumT (K : PySem.W.Frag) (ta : TA) : TI := fun σ H R => ta σ H fun vs H1 => ∃ a xs, vs = [.ref a] ∧ SqT K H1 a xs ∧ R (IteT K a) H1
theorem pi_enumT {X : Cx} {e : Expr} {ta : TA} {p pos tpos : Pos} {elts : List Expr} {kk : Nat} (hg : Gl X "enumerate") (hm : X.mg "enumerate" = none) (ha : PA X [e] ta) (hs : starEach [e] X.env = [(false, eval e X.env)] := by rfl) :
    PI X (.Tuple elts kk tpos) (.Call (.Name "enumerate" p) [e] [] pos) (iEnumT X.K ta) := by
  refine ⟨fun pins s σ H R I h => ?_⟩
  refine Call_ (ld_blt I hg hm boot_enumerate (PyProof.Rows.callWith_type1 (thn (ha.run pos pins s σ H _ I h) fun us s1 ⟨vs, H1, I1, r1, q1⟩ => ?_) hs rfl))
  obtain ⟨a, xs, ex, hq, q⟩ := q1
  subst ex
  cases r1 with
  | cons r rr =>
    cases rr
    cases r
    obtain ⟨its, rv, p', hz⟩ := I1.tuple hq
    have hal : a < s1.heap.objs.size := by obtain ⟨o, ho, _⟩ := p'; exact Heap.lt_size ho
    refine enum_begins1 (begins_tuple a its.toArray) p' fun h' he hit hsz hk => wpAny_pyIter_enum he ?_
    have I2 : Inv X pins σ H1 { s1 with heap := h' } := I1.kept (t' := s1.toks) hk
    refine ⟨s1.heap.objs.size + 1, [s1.heap.objs.size + 1, s1.heap.objs.size], _, _, H1, rfl, I2, turn_enumT a (s1.heap.objs.size + 1) s1.heap.objs.size, ⟨⟨.none, he⟩, ⟨_, hit, rfl, rfl⟩, Nat.succ_ne_self _, Nat.ne_of_lt hal, Nat.ne_of_lt (Nat.lt_succ_of_lt hal)⟩, fun b hb => ?_, q⟩
    have e' : b = s1.heap.objs.size + 1 ∨ b = s1.heap.objs.size := by simpa using hb
    have hle : s1.heap.objs.size ≤ b := by
      rcases e' with z | z
      · rw [z]; exact Nat.le_add_right _ _
      · rw [z]; exact Nat.le_refl _
    exact I1.fpOk hle (I1.hok.fresh hle)
def enumD (xs : List D) : List D := (List.range xs.length).zip xs |>.map fun p => .tup [.int (p.1 : Nat), p.2]
theorem enumD_get {xs : List D} {i : Nat} {d : D} (h : (enumD xs)[i]? = some d) : ∃ x, xs[i]? = some x ∧ d = .tup [.int (i : Nat), x] := by
  unfold enumD at h
  rw [List.getElem?_map, Option.map_eq_some_iff] at h
  obtain ⟨⟨a, b⟩, h, rfl⟩ := h
  obtain ⟨h1, h2⟩ := List.getElem?_zip_eq_some.mp h
  have h3 : i < xs.length := (List.getElem?_eq_some_iff.mp h2).1
  rw [List.getElem?_range h3] at h1
  cases h1
  exact ⟨b, h2, rfl⟩
theorem enumD_len (xs : List D) : (enumD xs).length = xs.length := by simp [enumD]
def enum1 : List D → Option (List D)
  | [d] => (itA d).map enumD
  | _ => none
theorem ok_enumL {K : PySem.W.Frag} {L W : List Addr} {H : Hp} {a : Addr} {xs : List V} {ds : List D} (h : SqL K (hide H (W ++ L)) a xs) (q : Reps K (hide H (W ++ L)) xs ds) : ItOk K L W H (Ite K a) (enumD ds) := fun W1 H1 st al => by
  have h1 := ex_l (st.ex.trans hide_ex) h
  refine ⟨fun i hi => ⟨xs, h1, by rw [enumD_len] at hi; rw [q.length]; exact hi⟩, fun i d hd => ?_⟩
  obtain ⟨d1, e1, rfl⟩ := enumD_get hd
  obtain ⟨x, hx, qx⟩ := q.get e1
  refine ⟨⟨xs, x, h1, hx⟩, fun v H' ⟨T, x', e, hT, eH, k1⟩ => ?_⟩
  subst e eH
  cases (k1 xs h1).symm.trans hx
  exact newT al hT (.cons (.int _) (.cons (st.rep qx) .nil))
theorem ok_enumT {K : PySem.W.Frag} {L W : List Addr} {H : Hp} {a : Addr} {xs : List V} {ds : List D} (h : SqT K (hide H (W ++ L)) a xs) (q : Reps K (hide H (W ++ L)) xs ds) : ItOk K L W H (IteT K a) (enumD ds) := fun W1 H1 st al => by
  have h1 := ex_t (st.ex.trans hide_ex) h
  refine ⟨fun i hi => ⟨xs, h1, by rw [enumD_len] at hi; rw [q.length]; exact hi⟩, fun i d hd => ?_⟩
  obtain ⟨d1, e1, rfl⟩ := enumD_get hd
  obtain ⟨x, hx, qx⟩ := q.get e1
  refine ⟨⟨xs, x, h1, hx⟩, fun v H' ⟨T, x', e, hT, eH, k1⟩ => ?_⟩
  subst e eH
  cases (k1 xs h1).symm.trans hx
  exact newT al hT (.cons (.int _) (.cons (st.rep qx) .nil))
def enumL1 : List D → Option (List D)
  | [d] => (itL d).map enumD
  | _ => none
def enumT1 : List D → Option (List D)
  | [d] => (itT d).map enumD
  | _ => none
section
variable {X : Cx} {Wx : WX} {e : Expr} {m : M (List D)} {p pos tpos : Pos} {elts : List Expr} {kk : Nat}
theorem pit_enumL (hm : X.mg "enumerate" = none) (ha : PAs X Wx [e] m) (hg : Gl X "enumerate" := by rfl) (hs : starEach [e] X.env = [(false, eval e X.env)] := by rfl) :
    PIt X Wx (.Tuple elts kk tpos) (.Call (.Name "enumerate" p) [e] [] pos) (iterA enumL1 m) := by
  refine PI_imp (pi_enum hg hm ha hs) fun σ H R hq => ?_
  obtain ⟨ρ, L, W, rl, p⟩ := hq
  refine bd_I rl p fun xs ds es ρ1 W1 H1 rl1 q e k => ?_
  unfold enumL1 at e
  split at e
  · rename_i d
    simp only [Option.map_eq_some_iff] at e
    obtain ⟨zs, e, rfl⟩ := e
    obtain ⟨x, rfl, q1⟩ := q.one
    unfold itL at e
    split at e
    · cases e
      obtain ⟨a, xs, rfl, h, q⟩ := q1.lst_inv
      exact ⟨a, xs, rfl, SqL.of (hide_some h).2, k _ (ok_enumL (SqL.of h) q)⟩
    · cases e
      cases q1 with
      | scr h => exact ⟨_, _, rfl, ex_l hide_ex h, k _ (ok_enumL h (reps_ints _))⟩
    · cases e
  · cases e
theorem pit_enumT (hm : X.mg "enumerate" = none) (ha : PAs X Wx [e] m) (hg : Gl X "enumerate" := by rfl) (hs : starEach [e] X.env = [(false, eval e X.env)] := by rfl) :
    PIt X Wx (.Tuple elts kk tpos) (.Call (.Name "enumerate" p) [e] [] pos) (iterA enumT1 m) := by
  refine PI_imp (pi_enumT hg hm ha hs) fun σ H R hq => ?_
  obtain ⟨ρ, L, W, rl, p⟩ := hq
  refine bd_I rl p fun xs ds es ρ1 W1 H1 rl1 q e k => ?_
  unfold enumT1 at e
  split at e
  · rename_i d
    simp only [Option.map_eq_some_iff] at e
    obtain ⟨zs, e, rfl⟩ := e
    obtain ⟨x, rfl, q1⟩ := q.one
    unfold itT at e
    split at e
    · cases e
      obtain ⟨a, xs, rfl, h, q⟩ := q1.tup_inv
      exact ⟨a, xs, rfl, ex_t hide_ex h, k _ (ok_enumT h q)⟩
    · cases e
  · cases e
theorem pit_enum (hm : X.mg "enumerate" = none) (ha : PAs X Wx [e] m) (hg : Gl X "enumerate" := by rfl) (hs : starEach [e] X.env = [(false, eval e X.env)] := by rfl) :
    PIt X Wx (.Tuple elts kk tpos) (.Call (.Name "enumerate" p) [e] [] pos) (iterA enum1 m) := by
  refine PI_imp (pi_or (pit_enumL (Wx := Wx) hm ha hg hs) (pit_enumT (Wx := Wx) hm ha hg hs)) fun σ H R hq => ?_
  obtain ⟨ρ, L, W, rl, p⟩ := hq
  have c : PostI X.K Wx σ L W H R (iterA enumL1 m ρ) ∨ PostI X.K Wx σ L W H R (iterA enumT1 m ρ) := by
    unfold iterA at p ⊢
    revert p
    cases m ρ with
    | stuck => exact fun p => p.elim
    | er e ρ' => exact fun p => .inl p
    | ok ds ρ' =>
      match ds with
      | [] => exact fun p => p.elim
      | _ :: _ :: _ => exact fun p => p.elim
      | [d] =>
        cases d with
        | lst ds => exact fun p => .inl p
        | tup ds => exact fun p => .inr p
        | scr ns => exact fun p => .inl p
        | _ => exact fun p => p.elim
  exact c.imp (fun p => ⟨ρ, L, W, rl, p⟩) fun p => ⟨ρ, L, W, rl, p⟩
@[simp] theorem enum1_l {ds : List D} : enum1 [.lst ds] = some (enumD ds) := rfl
@[simp] theorem enum1_t {ds : List D} : enum1 [.tup ds] = some (enumD ds) := rfl
end
end P
namespace P
open PySem PySem.Spec PyProof.Rows L2
section
variable {K : PySem.W.Frag} {x qual : Str} {params : Arguments} {body : List Stmt} {scope : Scope} {f : Addr} {fd : FuncData} {ps : List Str} {kws : List (Str × V)}
theorem pick_succ {α : Type} (x : α) (us : List α) : ∀ ix : List Nat, pick (ix.map (· + 1)) (x :: us) = pick ix us
  | [] => rfl
  | i :: ix => by
    unfold pick
    rw [List.map_cons, List.filterMap_cons, List.filterMap_cons]
    simp only [List.getElem?_cons_succ]
    have ih := pick_succ x us ix
    unfold pick at ih
    cases us[i]? <;> simp [ih]
theorem kbs_kw (F : FunD K x qual params body scope [] kws f fd) (n : Nat) (ks : List Str) (ix : List Nat)
    (h : ∀ (kV doc pm : Value) (an : Option Addr) (cdv ct : Value) (us ws : List Value), us.length = n + 1 → ws.length = ks.length → bindArgs (PySem.W.fnOf x qual params body scope .none kV doc pm an cdv ct) ⟨us, ks.zip ws⟩ = pure (ps.zip (pick (0 :: ix.map (· + 1)) (us ++ ws)))) : KBs K fd ps n ks (fun ds es => pick ix (ds ++ es)) := by
  obtain ⟨oc, od, dV, kV, doc, pm, an, cdv, ct, osl, rfl, lk, hcd, hD, hK⟩ := F.ex
  rcases hD with ⟨_, rfl⟩ | ⟨e, _⟩
  · refine ⟨fun us ws => pick (0 :: ix.map (· + 1)) (us ++ ws), fun vs zs => pick (0 :: ix.map (· + 1)) (vs ++ zs), ⟨fun s us ws _ l1 l2 => .of_eq (h kV doc pm an cdv ct us ws l1 l2), fun r q => pick_vals _ (r.append q)⟩, fun G x vs zs ds es r q => ⟨pick ix (vs ++ zs), ?_, pick_reps ix (r.append q)⟩⟩
    show pick (0 :: ix.map (· + 1)) (x :: (vs ++ zs)) = _
    rw [pick_cons]
    simp only [List.getElem?_cons_zero, pick_succ]
  · exact absurd rfl e
end
section
variable {X : Cx} {Wx : WX} {k : Nat} {c : Str} {g : Addr} {fd : FuncData} {ps : List Str}
end
end P
namespace P
open PySem PySem.Spec PyProof.Rows L2
def okR (a b : Int) : Bool := decide (0 ≤ a ∧ 0 ≤ b ∧ a ≤ 1000000 ∧ b ≤ 1000000)
@[simp] def lrg1 (ma : M D) : M Slot := fun ρ => (ma ρ).bd fun d ρ1 => match d with
  | .int b => if okR 0 b then .ok (.ownL ((rngL 0 b.toNat).map .val)) ρ1 else .stuck
  | _ => .stuck
@[simp] def lrg2 (ma mb : M D) : M Slot := fun ρ => (ma ρ).bd fun d ρ1 => (mb ρ1).bd fun e ρ2 => match d, e with
  | .int a, .int b => if okR a b then .ok (.ownL ((rngL a (b - a).toNat).map .val)) ρ2 else .stuck
  | _, _ => .stuck
@[simp] def trg1 (ma : M D) : M D := fun ρ => (ma ρ).bd fun d ρ1 => match d with
  | .int b => if okR 0 b then .ok (.tup (rngL 0 b.toNat)) ρ1 else .stuck
  | _ => .stuck
@[simp] def trg2 (ma mb : M D) : M D := fun ρ => (ma ρ).bd fun d ρ1 => (mb ρ1).bd fun e ρ2 => match d, e with
  | .int a, .int b => if okR a b then .ok (.tup (rngL a (b - a).toNat)) ρ2 else .stuck
  | _, _ => .stuck
section
variable {X : Cx} {Wx : WX} {a b : Expr} {ma mb : M D} {p p2 pos pos2 : Pos}
end
@[simp] def bopN (g : D → D → Option (List D)) (ma mb : M D) : M Slot := fun ρ => (ma ρ).bd fun x ρ1 => (mb ρ1).bd fun y ρ2 => ofO ((g x y).map fun es => .ownL (es.map .val)) ρ2
def addN : D → D → Option (List D)
  | .lst xs, .lst ys => if xs.length + ys.length ≤ 1000000 then some (xs ++ ys) else none
  | _, _ => none
def mulN : D → D → Option (List D)
  | .lst xs, .int j => if j < 1000000 ∧ -1000000 < j ∧ xs.length * j.toNat ≤ 1000000 then some (List.replicate j.toNat xs).flatten else none
  | _, _ => none
section
variable {X : Cx} {Wx : WX}
@[simp] theorem addN_l {xs ys : List D} : addN (.lst xs) (.lst ys) = if xs.length + ys.length ≤ 1000000 then some (xs ++ ys) else none := rfl
@[simp] theorem mulN_l {xs : List D} {j : Int} : mulN (.lst xs) (.int j) = if j < 1000000 ∧ -1000000 < j ∧ xs.length * j.toNat ≤ 1000000 then some (List.replicate j.toNat xs).flatten else none := rfl
end
def flD : D → Bool
  | .non | .int _ | .str _ => true
  | _ => false
def eqF : D → D → Bool
  | .non, .non => true
  | .int i, .int j => decide (i = j)
  | .str i, .str j => decide (i = j)
  | _, _ => false
def memF (x : D) (ds : List D) : Bool := ds.any fun y => eqF y x
def inF (neg : Bool) (x : D) : D → Option D
  | .lst ds | .tup ds => if flD x && ds.all flD then some (.bl (memF x ds != neg)) else none
  | _ => none
def inP (neg : Bool) (x : D) : D → Option D
  | .lst ds => match toP x, toPs ds with
    | some p, some ps => if SeqAt.shaped p && SeqAt.shaped (.list ps) then some (.bl ((ps.any fun z => PyData.eqv z p) != neg)) else none
    | _, _ => none
  | _ => none
def inD (neg : Bool) (x y : D) : Option D := (inF neg x y).or (inP neg x y)
section
variable {X : Cx} {K : PySem.W.Frag} {G : Hp}
theorem Rep.flat {v : V} {d : D} (h : Rep K G v d) (f : flD d = true) : flatV v = true := by
  cases h <;> first | rfl | cases f
theorem Reps.flatV : ∀ {vs : List V} {ds : List D}, Reps K G vs ds → ds.all flD = true → vs.all L2.flatV = true
  | _, _, .nil, _ => rfl
  | _, _, .cons h r, f => by
    simp only [List.all_cons, Bool.and_eq_true] at f ⊢
    exact ⟨h.flat f.1, Reps.flatV r f.2⟩
end
end P
namespace P
open PySem PySem.Spec PyProof.Rows L2
@[simp] theorem val?_ok {s : Slot} : FR.val? (.ok s) = s.fz := rfl
@[simp] theorem addI_i {i j : Int} : addI (.int i) (.int j) = some (.int (i + j)) := rfl
theorem rngL0_map (n : Nat) : rngL 0 n = (List.range n).map fun i : Nat => .int (i : Int) := by
  unfold rngL; apply List.map_congr_left; intro i _; simp
theorem lcL_map {α β : Type} {vs : List Nat} {b : D → Env → Option Env} {t : M Bool} {m : M D} {ρ : Env} (e : α → D) (e' : β → D) (T : α → Bool) (F : α → β) : ∀ (xs : List α), (∀ x ∈ xs, ∃ ρ1, b (e x) ρ = some ρ1 ∧ t ρ1 = .ok (T x) ρ1 ∧ (T x = true → m ρ1 = .ok (e' (F x)) ρ1) ∧ wipeP ρ1 vs = ρ) →
    lcL vs b t m (xs.map e) ρ = .ok (((xs.filter T).map F).map e') ρ
  | [], _ => rfl
  | x :: xs, h => by
    obtain ⟨ρ1, h1, h2, h3, h4⟩ := h x (by simp)
    have ih := lcL_map (vs := vs) (b := b) (t := t) (m := m) e e' T F xs fun y hy => h y (by simp [hy])
    rw [List.map_cons]
    unfold lcL
    simp only [h1, h2]
    cases c : T x with
    | true => simp only [h3 c, h4, ih, Res.map, List.filter_cons, c, if_true, List.map_cons]
    | false => simp only [h4, ih, List.filter_cons, c]; rfl
theorem lcL_all {α β : Type} {vs : List Nat} {b : D → Env → Option Env} {m : M D} {ρ : Env} (e : α → D) (e' : β → D) (F : α → β) (xs : List α) (h : ∀ x ∈ xs, ∃ ρ1, b (e x) ρ = some ρ1 ∧ m ρ1 = .ok (e' (F x)) ρ1 ∧ wipeP ρ1 vs = ρ) :
    lcL vs b yesM m (xs.map e) ρ = .ok ((xs.map F).map e') ρ := by
  have := lcL_map (vs := vs) (b := b) (t := yesM) (m := m) (ρ := ρ) e e' (fun _ => true) F xs fun x hx => by
    obtain ⟨ρ1, h1, h2, h3⟩ := h x hx
    exact ⟨ρ1, h1, rfl, fun _ => h2, h3⟩
  rw [this]
  congr 2
  rw [List.filter_eq_self.mpr fun _ _ => rfl]
@[simp] theorem inD_f {neg : Bool} {x : D} {ds : List D} (h : (flD x && ds.all flD) = true) : inD neg x (.tup ds) = some (.bl (memF x ds != neg)) := by
  have e : inF neg x (.tup ds) = some (.bl (memF x ds != neg)) := by show (if _ then _ else _) = _; rw [if_pos h]
  unfold inD; rw [e]; rfl
section
variable {i : Int} {b : Bool} {x : Str} {xs : List Str} {ds es : List D} {tk tl : Bool}
@[simp] theorem isi_int_non : isiT "int" .non = some false := rfl
@[simp] theorem isi_int_bl : isiT "int" (.bl b) = some true := rfl
@[simp] theorem isi_int_int : isiT "int" (.int i) = some true := rfl
@[simp] theorem isi_int_str : isiT "int" (.str x) = some false := rfl
@[simp] theorem isi_int_tup : isiT "int" (.tup ds) = some false := rfl
@[simp] theorem isi_int_lst : isiT "int" (.lst ds) = some false := rfl
@[simp] theorem isi_int_dct : isiT "int" (.dct tk tl ds es) = some false := rfl
@[simp] theorem isi_int_ins : isiT "int" (.ins x xs ds) = some false := rfl
@[simp] theorem isi_bool_non : isiT "bool" .non = some false := rfl
@[simp] theorem isi_bool_bl : isiT "bool" (.bl b) = some true := rfl
@[simp] theorem isi_bool_int : isiT "bool" (.int i) = some false := rfl
@[simp] theorem isi_bool_str : isiT "bool" (.str x) = some false := rfl
@[simp] theorem isi_bool_tup : isiT "bool" (.tup ds) = some false := rfl
@[simp] theorem isi_bool_lst : isiT "bool" (.lst ds) = some false := rfl
@[simp] theorem isi_bool_dct : isiT "bool" (.dct tk tl ds es) = some false := rfl
@[simp] theorem isi_bool_ins : isiT "bool" (.ins x xs ds) = some false := rfl
@[simp] theorem isi_str_non : isiT "str" .non = some false := rfl
@[simp] theorem isi_str_bl : isiT "str" (.bl b) = some false := rfl
@[simp] theorem isi_str_int : isiT "str" (.int i) = some false := rfl
@[simp] theorem isi_str_str : isiT "str" (.str x) = some true := rfl
@[simp] theorem isi_str_tup : isiT "str" (.tup ds) = some false := rfl
@[simp] theorem isi_str_lst : isiT "str" (.lst ds) = some false := rfl
@[simp] theorem isi_str_dct : isiT "str" (.dct tk tl ds es) = some false := rfl
@[simp] theorem isi_str_ins : isiT "str" (.ins x xs ds) = some false := rfl
@[simp] theorem isi_tuple_non : isiT "tuple" .non = some false := rfl
@[simp] theorem isi_tuple_bl : isiT "tuple" (.bl b) = some false := rfl
@[simp] theorem isi_tuple_int : isiT "tuple" (.int i) = some false := rfl
@[simp] theorem isi_tuple_str : isiT "tuple" (.str x) = some false := rfl
@[simp] theorem isi_tuple_tup : isiT "tuple" (.tup ds) = some true := rfl
@[simp] theorem isi_tuple_lst : isiT "tuple" (.lst ds) = some false := rfl
@[simp] theorem isi_tuple_dct : isiT "tuple" (.dct tk tl ds es) = some false := rfl
@[simp] theorem isi_tuple_ins : isiT "tuple" (.ins x xs ds) = some false := rfl
@[simp] theorem isi_list_non : isiT "list" .non = some false := rfl
@[simp] theorem isi_list_bl : isiT "list" (.bl b) = some false := rfl
@[simp] theorem isi_list_int : isiT "list" (.int i) = some false := rfl
@[simp] theorem isi_list_str : isiT "list" (.str x) = some false := rfl
@[simp] theorem isi_list_tup : isiT "list" (.tup ds) = some false := rfl
@[simp] theorem isi_list_lst : isiT "list" (.lst ds) = some true := rfl
@[simp] theorem isi_list_dct : isiT "list" (.dct tk tl ds es) = some false := rfl
@[simp] theorem isi_list_ins : isiT "list" (.ins x xs ds) = some false := rfl
@[simp] theorem isi_dict_non : isiT "dict" .non = some false := rfl
@[simp] theorem isi_dict_bl : isiT "dict" (.bl b) = some false := rfl
@[simp] theorem isi_dict_int : isiT "dict" (.int i) = some false := rfl
@[simp] theorem isi_dict_str : isiT "dict" (.str x) = some false := rfl
@[simp] theorem isi_dict_tup : isiT "dict" (.tup ds) = some false := rfl
@[simp] theorem isi_dict_lst : isiT "dict" (.lst ds) = some false := rfl
@[simp] theorem isi_dict_dct : isiT "dict" (.dct tk tl ds es) = some true := rfl
@[simp] theorem isi_dict_ins : isiT "dict" (.ins x xs ds) = some false := rfl
end
@[simp] theorem sz_a {α : Type} {n : Nat} {a b : α} (h : n ≤ 16777216) : (if n ≤ 16777216 then a else b) = a := if_pos h
@[simp] theorem sz_b {α : Type} {n : Nat} {a b : α} (h : n ≤ 1000000) : (if n ≤ 1000000 then a else b) = a := if_pos h
@[simp] theorem sz_c {α : Type} {n : Nat} {a b : α} (h : n < 1000000) : (if n < 1000000 then a else b) = a := if_pos h
end P
namespace P
open PySem PySem.Spec PyProof.Rows L2
def upto (lo hi : Nat) : List Nat := (List.range (hi - lo)).map (lo + ·)
def iN (n : Nat) : D := .int (n : Int)
@[simp] theorem getL_own {ρ : Env} {i : Nat} {ds : List D} (h : ρ[i]? = some (.ownL (ds.map .val))) : getL ρ i = some ds := by
  unfold getL; rw [h]; exact valsOf_map ds
end P
namespace P
open PySem PySem.Spec PyProof.Rows L2
end P
namespace P
open PySem PySem.Spec PyProof.Rows L2
end P
namespace P
open PySem PySem.Spec PyProof.Rows L2
@[simp] def wipeO (i : Nat) : Out → Out
  | .nx ρ => .nx (ρ.set i .unb)
  | .bk ρ => .bk (ρ.set i .unb)
  | .ct ρ => .ct (ρ.set i .unb)
  | .rt s ρ => .rt s (ρ.set i .unb)
  | .er _ _ => .stuck
  | .stuck => .stuck
end P
namespace P
open PySem PySem.Spec PyProof.Rows L2
section
variable {X : Cx} {Wx : WX} {J : List Nat}
end
end P
namespace P
open PySem PySem.Spec PyProof.Rows L2
@[simp] def augIxS (i : Nat) (mk me : M D) : S := fun ρ => Out.of (withL (α := Out) i mk (fun ds k ρ1 => match k with
  | .int kk => (match atI ds kk with
    | some (.int a) => withL (α := Out) i me (fun ds2 e ρ2 => match e with
      | .int b => (match ixN ds2.length kk with
        | some j => .ok (.nx (ρ2.set i (ownV (ds2.set j (.int (a + b)))))) ρ2
        | none => .stuck)
      | _ => .stuck) ρ1
    | _ => .stuck)
  | _ => .stuck) ρ)
end P
namespace P
open PySem PySem.Spec PyProof.Rows L2
@[simp] def starS (i j : Nat) (m : M D) : S := fun ρ => Out.of ((m ρ).bd fun d ρ1 => match d with
  | .tup (d0 :: ds) => if ds.length < 16384 then .ok (.nx ((ρ1.set i (.val d0)).set j (.ownL (ds.map .val)))) ρ1 else .stuck
  | _ => .stuck)
end P
namespace P
open PySem PySem.Spec PyProof.Rows L2
section
variable {X : Cx} {Wx : WX} {J : List Nat}
end
end P
namespace P
open PySem PySem.Spec PyProof.Rows L2
section
variable {K : PySem.W.Frag} {G G' H H' : Hp} {L W : List Addr} {ρ : Env} {σ : L2.St}
theorem RelSs.app : ∀ {f g : List Addr} {xs ys : List V} {ss ts : List Slot}, RelSs K G H f xs ss → RelSs K G H g ys ts → RelSs K G H (f ++ g) (xs ++ ys) (ss ++ ts)
  | _, _, _, _, _, _, .nil, h => h
  | _, _, _, _, _, _, .cons h r, s => by rw [List.append_assoc]; exact .cons h (r.app s)
theorem RelE.slots : ∀ (vs : List V) (ss : Env) (W : List Addr), RelE K G H W (vs.map some) ss → (∀ s ∈ ss, s ≠ .unb) → RelSs K G H W vs ss := by
  intro vs
  induction vs with
  | nil =>
    intro ss W h _
    have h : RelE K G H W [] ss := h
    cases h
    exact .nil
  | cons v vs ih =>
    intro ss W h n
    have h : RelE K G H W (some v :: vs.map some) ss := h
    cases h with
    | unb r => exact absurd rfl (n _ (by simp))
    | cons q r => exact .cons q (ih _ _ r fun s hs => n s (by simp [hs]))
theorem RelSs.pick : ∀ {f : List Addr} {ys : List V} {ps : List Slot} {j : Nat} {s : Slot}, RelSs K G H f ys ps → ps[j]? = some s →
    ∃ (y : V) (A g B : List Addr), ys[j]? = some y ∧ f = A ++ g ++ B ∧ RelS K G H g y s ∧ ∀ (H' : Hp) (G' : Hp) (s' : Slot) (g' : List Addr), Ex G G' → RelS K G' H' g' y s' → (∀ a ∈ A ++ B, H' a = H a) → RelSs K G' H' (A ++ g' ++ B) ys (ps.set j s')
  | _, _, _, _, _, .nil, e => by simp at e
  | _, _, _, 0, _, .cons (f := f) (g := g) h r, e => by
    simp at e; subst e
    exact ⟨_, [], f, g, rfl, rfl, h, fun H' G' s' g' x' h' k => by simpa using RelSs.cons h' (r.mono x' fun a ha => k a (by simp [ha]))⟩
  | _, _, _, j + 1, _, .cons (f := f0) (g := g0) h r, e => by
    obtain ⟨y, A, g, B, h1, h2, h3, h4⟩ := r.pick (j := j) (by simpa using e)
    refine ⟨y, f0 ++ A, g, B, by simpa using h1, by rw [h2]; simp, h3, fun H' G' s' g' x' h' k => ?_⟩
    have := RelSs.cons (h.mono x' fun a ha => k a (by simp [ha])) (h4 H' G' s' g' x' h' fun a ha => k a (by
      simp only [List.mem_append] at ha ⊢
      rcases ha with h | h <;> simp [h]))
    simpa using this
theorem RelE.put : ∀ {W : List Addr} {σ : L2.St} {ρ : Env} {i : Nat} {v : V} {s : Slot} {f : List Addr}, RelE K G H W σ ρ → ρ[i]? = some .unb → σ[i]? = some (some v) → RelS K G H f v s → ∃ W', W'.Perm (f ++ W) ∧ RelE K G H W' σ (ρ.set i s)
  | _, _, _, _, _, _, _, .nil, e, _, _ => by simp at e
  | _, _, _, 0, _, _, f, .unb r, e, ev, h => by
    simp at ev; subst ev
    exact ⟨_, List.Perm.refl _, .cons h r⟩
  | _, _, _, 0, _, _, f, .cons (g := g) q r, e, ev, h => by
    simp at e ev
    subst e
    subst ev
    cases q
  | _, _, _, i + 1, _, _, f, .unb r, e, ev, h => by
    obtain ⟨W', p, r'⟩ := r.put (i := i) (by simpa using e) (by simpa using ev) h
    exact ⟨W', p, .unb r'⟩
  | _, _, _, i + 1, _, _, f, .cons (f := f0) (g := g0) q r, e, ev, h => by
    obtain ⟨W', p, r'⟩ := r.put (i := i) (by simpa using e) (by simpa using ev) h
    refine ⟨f0 ++ W', ?_, .cons q r'⟩
    rw [List.perm_iff_count]
    intro b
    have := p.count_eq b
    simp only [List.count_append] at this ⊢
    omega
end
@[simp] def lstB (m : M (List Slot)) : M Slot := fun ρ => (m ρ).bd fun ss ρ1 => if ss.length ≤ 1000000 ∧ ss.all (fun s => !s.isUnb) = true then .ok (.ownL ss) ρ1 else .stuck
@[simp] def appSM (i : Nat) (m : M Slot) : M D := fun ρ => match ρ[i]? with
  | some (.ownL _) => (m ρ).bd fun s ρ1 => (match ρ1[i]? with
    | some (.ownL ss) => if ss.length < 1000000 ∧ s.isUnb = false then .ok .non (ρ1.set i (.ownL (ss ++ [s]))) else .stuck
    | _ => .stuck)
  | _ => .stuck
section
variable {X : Cx} {Wx : WX} {J : List Nat}
end
end P
namespace P
open PySem PySem.Spec PyProof.Rows L2
section
variable {K : PySem.W.Frag} {H : Hp} {L W : List Addr} {ρ : Env} {σ : L2.St}
end
section
variable {X : Cx} {Wx : WX} {J : List Nat}
end
end P
namespace P
open PySem PySem.Spec PyProof.Rows L2
end P
namespace P
open PySem PySem.Spec PyProof.Rows L2
@[simp] def cmpO (i : Nat) (g : D → D → Option D) (mb : M D) : M D := fun ρ => match ρ[i]? with
  | some s0 => if s0.isUnb then .stuck else (mb ρ).bd fun y ρ1 => (match ρ1[i]? with
    | some s => (match s.fz with
      | some x => (match g x y with
        | some (.bl b) => .ok (.bl b) ρ1
        | _ => .stuck)
      | none => .stuck)
    | none => .stuck)
  | none => .stuck
section
variable {X : Cx} {Wx : WX}
end
end P
namespace ZK
open PySem
open PySem.Sem (wp)
structure Kd where
  cn : String
  it : Heap → Addr → Addr → Nat → Prop
  sq : Heap → Addr → Array Value → Prop
  at_ : ∀ {h h' : Heap} {a l : Addr} {i : Nat}, it h a l i → (∀ o, h.get? a = some o → h'.get? a = some o) → it h' a l i
  itE : ∀ {h h' : Heap} {a b l : Addr} {i : Nat}, it h a l i → Heap.ExtBut b h h' → a ≠ b → it h' a l i
  sqE : ∀ {h h' : Heap} {a b : Addr} {xs : Array Value}, sq h a xs → Heap.ExtBut b h h' → a ≠ b → sq h' a xs
  item : ∀ {prog : Program} {w : World} {A : Around} {E : Value → Shared → Prop} {s : Shared} {a l : Addr} {i : Nat} {xs : Array Value} {x : Value} {Q : Value → Shared → Prop}, it s.heap a l i → sq s.heap l xs → xs[i]? = some x →
    (∀ h', it h' a l (i + 1) → Heap.SameBut a s.heap h' → Q x { s with heap := h' }) → wpAny (model prog w) A (Builtin.SmallTypes.nextOf (.ref a)) Q E s
  stop : ∀ {prog : Program} {w : World} {A : Around} {E : Value → Shared → Prop} {s : Shared} {a l : Addr} {i : Nat} {xs : Array Value} {Q : Value → Shared → Prop}, A.handled = none → it s.heap a l i → sq s.heap l xs → xs[i]? = none →
    (∀ h' e, Heap.ExtBut a s.heap h' → (∃ o, h'.get? e = some o ∧ o.cls = .type "StopIteration") → E (.ref e) { s with heap := h' }) → wpAny (model prog w) A (Builtin.SmallTypes.nextOf (.ref a)) Q E s
  obj : ∀ {h : Heap} {a l : Addr} {i : Nat}, it h a l i → ∃ o fs, h.get? a = some o ∧ o.data = .fields fs
  new : ∀ {h : Heap} {a l : Addr}, h.get? a = some { cls := .type cn, data := .fields #[.ref l, .int 0 0] } → it h a l 0
section
variable {prog : Program} {w : World} {A : Around} {E : Value → Shared → Prop} {s : Shared} (k1 k2 : Kd)
end
end ZK
namespace ZK
open PySem PySem.Spec PyProof.Rows L2
structure Kv extends Kd where
  sv : PySem.W.Frag → Hp → Addr → List V → Prop
  look : ∀ {X : Cx} {pins : List (Addr × Obj)} {σ : L2.St} {H : Hp} {s : Shared} {a : Addr} {xs : List V}, Inv X pins σ H s → sv X.K H a xs → ∃ its : List Value, Vals xs its ∧ sq s.heap a its.toArray ∧ a < s.heap.objs.size
  inj : ∀ {X : Cx} {pins : List (Addr × Obj)} {σ : L2.St} {H : Hp} {s : Shared} {a : Addr} {xs ys : List V}, Inv X pins σ H s → sv X.K H a xs → sv X.K H a ys → xs = ys
section
variable {prog : Program} {w : World} {A : Around} {E : Value → Shared → Prop} {s : Shared}
end
end ZK
namespace P
open PySem PySem.Spec PyProof.Rows L2
def zip4 : List D → Option (List D)
  | [.lst xs, .lst ys] => some (zipD xs ys)
  | [.tup xs, .tup ys] => some (zipD xs ys)
  | [.tup xs, .lst ys] => some (zipD xs ys)
  | [.lst xs, .tup ys] => some (zipD xs ys)
  | _ => none
section
variable {X : Cx} {Wx : WX}
end
end P
namespace P
open PySem PySem.Spec PyProof.Rows L2
def ltT : D → D → Option D
  | .tup xs, .tup ys => (match asInts xs, asInts ys with
    | some ns, some ms => some (.bl (HT.lexLt ns ms))
    | _, _ => none)
  | _, _ => none
def ltX (x y : D) : Option D := (ltD x y).or (ltT x y)
@[simp] theorem ltX_i {i j : Int} : ltX (.int i) (.int j) = some (.bl (decide (i < j))) := rfl
end P
namespace P
open PySem PySem.Spec PyProof.Rows L2
end P
namespace P
open PySem PySem.Spec PyProof.Rows L2
@[simp] def callIK (c : Str) (F : List D → FR) (m : Nat) (gD : List D → List D → List D) (mo : M D) (mk : M (List D)) : M Slot := fun ρ => (mo ρ).bd fun d ρ1 => if insI c d then (mk ρ1).bd fun es ρ2 => if es.length = m then (F (gD [d] es)).res ρ2 else .stuck else .stuck
section
variable {X : Cx} {Wx : WX} {k : Nat} {c : Str} {g : Addr} {fd : FuncData} {ps ks : List Str} {pos : Pos} {o : Expr} {kws : List Keyword} {mo : M D} {mk : M (List D)} {F : List D → FR} {gD : List D → List D → List D}
end
end P
namespace P
open PySem PySem.Spec PyProof.Rows L2
def kEq : D → D → Bool
  | .int a, .int b => decide (a = b)
  | .str a, .str b => decide (a = b)
  | _, _ => false
def keyOf : D → Option Key
  | .int i => some (.inl i)
  | .str x => some (.inr x)
  | _ => none
def lkD : List D → List D → D → Option D
  | k :: ks, v :: vs, x => if kEq k x = true then some v else lkD ks vs x
  | _, _, _ => none
def rpD : List D → List D → D → D → List D
  | k :: ks, v :: vs, x, y => (if kEq k x = true then y else v) :: rpD ks vs x y
  | _, _, _, _ => []
def putK' (ks vs : List D) (k d : D) : Slot := match lkD ks vs k with
  | some _ => .ownD false ks (rpD ks vs k d)
  | none => .ownD false (ks ++ [k]) (vs ++ [d])
section
variable {K : PySem.W.Frag} {G : Hp}
end
def getK (ρ : Env) (i : Nat) : Option (List D × List D) := match ρ[i]? with
  | some (.ownD false ks vs) => some (ks, vs)
  | _ => none
section
variable {K : PySem.W.Frag} {L W : List Addr} {ρ : Env} {σ : L2.St} {H : Hp}
end
@[simp] def frzK (i : Nat) (m : S) : S := fun ρ => match ρ[i]? with
  | some (.ownD false ks vs) => m (ρ.set i (.val (.dct false true ks vs)))
  | some (.val _) => m ρ
  | _ => .stuck
section
variable {X : Cx} {Wx : WX} {J : List Nat}
end
def itK : D → Option (List D)
  | .dct false true ks _ => some ks
  | _ => none
@[simp] theorem itK_d {ks vs : List D} : itK (.dct false true ks vs) = some ks := rfl
@[simp] def dnewM : M Slot := fun ρ => .ok (.ownD false [] []) ρ
@[simp] def disp1 (k v : Int) : M Slot := fun ρ => .ok (.ownD false [.int k] [.int v]) ρ
section
variable {X : Cx} {Wx : WX} {J : List Nat}
end
@[simp] def setKS (i : Nat) (mk me : M D) : S := fun ρ => Out.of ((me ρ).bd fun d ρ1 => match getK ρ1 i with
  | none => .stuck
  | some _ => (mk ρ1).bd fun k ρ2 => match getK ρ2 i with
    | none => .stuck
    | some (ks, vs) => if (keyOf k).isSome = true ∧ ks.length < 1000000 then .ok (.nx (ρ2.set i (putK' ks vs k d))) ρ2 else .stuck)
@[simp] def getKO (i : Nat) (mk md : M D) : M D := fun ρ => match getK ρ i with
  | none => .stuck
  | some _ => (mk ρ).bd fun k ρ1 => (md ρ1).bd fun z ρ2 => match getK ρ2 i with
    | none => .stuck
    | some (ks, vs) => if (keyOf k).isSome = true then .ok ((lkD ks vs k).getD z) ρ2 else .stuck
@[simp] def ixKO (i : Nat) (mk : M D) : M D := fun ρ => match getK ρ i with
  | none => .stuck
  | some _ => (mk ρ).bd fun k ρ2 => match getK ρ2 i with
    | none => .stuck
    | some (ks, vs) => if (keyOf k).isSome = true then ofO (lkD ks vs k) ρ2 else .stuck
@[simp] def inKO (n : Bool) (i : Nat) (mk : M D) : M D := fun ρ => (mk ρ).bd fun k ρ2 => match getK ρ2 i with
    | none => .stuck
    | some (ks, vs) => if (keyOf k).isSome = true then .ok (.bl (n != (lkD ks vs k).isSome)) ρ2 else .stuck
@[simp] def getKV (m mk md : M D) : M D := fun ρ => (m ρ).bd fun o ρ0 => match o with
  | .dct false _ ks vs => (mk ρ0).bd fun k ρ1 => (md ρ1).bd fun z ρ2 => if (keyOf k).isSome = true then .ok ((lkD ks vs k).getD z) ρ2 else .stuck
  | _ => .stuck
def ixKD : D → D → Option D
  | .dct false _ ks vs, k => if (keyOf k).isSome = true then lkD ks vs k else none
  | _, _ => none
section
variable {X : Cx} {Wx : WX} {J : List Nat}
end
end P
namespace P
open PySem PySem.Spec PyProof.Rows L2
end P
namespace P
open PySem PySem.Spec PyProof.Rows L2
theorem fgt_nx {js : List Nat} {m : S} {ρ ρ1 ρ2 : Env} (h : m ρ = .nx ρ1) (h2 : wipeP ρ1 js = ρ2) : fgt js m ρ = .nx ρ2 := by
  show fgtO js (m ρ) = _
  rw [h, ← h2]; rfl
theorem fgt_step {js : List Nat} {m : S} {ρ ρ2 : Env} (h : ∃ ρ1, m ρ = .nx ρ1 ∧ wipeP ρ1 js = ρ2) : fgt js m ρ = .nx ρ2 := by
  obtain ⟨ρ1, h1, h2⟩ := h
  exact fgt_nx h1 h2
theorem runM_rt {N : Nat} {mm : List Bool} {m : S} {ss : List Slot} {s : Slot} {ρ : Env} {r : FM} (hn : ss.length = mm.length) (h : m (startM N ss) = .rt s ρ) (h2 : (Out.rt s ρ).fm mm = r) : runM N mm m ss = r := by
  unfold runM; rw [if_pos hn, h, h2]
end P
namespace P
open PySem PySem.Spec PyProof.Rows L2
@[simp] def bLst (bs : List (D → Env → Option Env)) : D → Env → Option Env
  | .lst ds, ρ => bList bs ds ρ
  | _, _ => none
section
variable {X : Cx}
end
end P
namespace P
open PySem PySem.Spec PyProof.Rows L2
section
variable {CL : List D} {j k : Nat} {X Y : D}
@[simp] theorem valsOf_set1 : valsOf ((CL.map Slot.val).set j (.val X)) = some (CL.set j X) := by rw [← List.map_set]; exact valsOf_map _
@[simp] theorem valsOf_set2 : valsOf (((CL.map Slot.val).set j (.val X)).set k (.val Y)) = some ((CL.set j X).set k Y) := by rw [← List.map_set, ← List.map_set]; exact valsOf_map _
@[simp] theorem fz_set1 : (Slot.ownL ((CL.map Slot.val).set j (.val X))).fz = some (.lst (CL.set j X)) := by rw [← List.map_set]; exact fz_own
@[simp] theorem fz_set2 : (Slot.ownL (((CL.map Slot.val).set j (.val X)).set k (.val Y))).fz = some (.lst ((CL.set j X).set k Y)) := by rw [← List.map_set, ← List.map_set]; exact fz_own
end
end P
namespace P
open PySem PySem.Spec PyProof.Rows L2
def keepV : Slot → Slot
  | .val d => .val d
  | _ => .unb
@[simp] theorem keepV_val {d : D} : keepV (.val d) = .val d := rfl
@[simp] theorem keepV_unb : keepV .unb = .unb := rfl
@[simp] theorem keepV_ownL {ss : List Slot} : keepV (.ownL ss) = .unb := rfl
@[simp] theorem keepV_ownI {c : Str} {ns : List Str} {ss : List Slot} : keepV (.ownI c ns ss) = .unb := rfl
@[simp] theorem keepV_ownD {t : Bool} {ks vs : List D} : keepV (.ownD t ks vs) = .unb := rfl
@[simp] def frzL : List Nat → Env → Option Env
  | [], ρ => some ρ
  | i :: is, ρ => match ρ[i]? with
    | some s => (match s.fz with
      | some d => frzL is (ρ.set i (.val d))
      | none => none)
    | none => none
@[simp] def lendM (is : List Nat) (m : M D) : M D := fun ρ => match frzL is ρ with
  | some ρ1 => (match m (ρ1.map keepV) with
    | .ok r _ => if flD r then .ok r ρ else .stuck
    | _ => .stuck)
  | none => .stuck
section
variable {K : PySem.W.Frag} {L W : List Addr} {ρ : Env} {σ : L2.St} {H H' : Hp} {G G' : Hp}
theorem RelE.keep : ∀ {W : List Addr} {σ : L2.St} {ρ : Env}, RelE K G H W σ ρ → RelE K G H [] σ (ρ.map keepV)
  | _, _, _, .nil => .nil
  | _, _, _, .unb r => .unb r.keep
  | _, _, _, .cons (s := s) h r => by
    cases h with
    | val q => exact .cons (f := []) (.val q) r.keep
    | ownL _ _ => exact .unb r.keep
    | ownK _ _ => exact .unb r.keep
    | ownT _ _ => exact .unb r.keep
    | ownI _ _ _ => exact .unb r.keep
    | exc _ => exact .unb r.keep
end
section
variable {X : Cx} {Wx : WX}
end
end P
namespace P
open PySem PySem.Spec PyProof.Rows L2 He HandSHeadRun
def addNew (k : List Addr → Nat → List Addr) : List Addr → Nat → List Addr → List Addr
  | [], m, acc => k acc m
  | a :: r, m, acc => match Nat.beq (Nat.land (Nat.shiftRight m a) 1) 0 with
    | true => frNat (Nat.lor m (Nat.shiftLeft 1 a)) fun m2 => addNew k r m2 (a :: acc)
    | false => addNew k r m acc
def goW (g : Addr → Option Obj) : Nat → List Addr → Nat → List Addr
  | 0, fr, _ => fr
  | n + 1, fr, m => fr ++ addNew (fun new m2 => goW g n new m2) (fr.flatMap fun a => match g a with
    | some o => refsD o
    | none => []) m []
def asW (g : Addr → Option Obj) (n : Nat) : List Addr := addNew (goW g n) [PySem.cStatics, mainGlobals] 0 []
def obsBG (n : Nat) (fs : List Fq) (fn : List He5.DefA) (g : Addr → Option Obj) : He.AlD := obsF fs fn (frG g (asW g n))
def hookB (n : Nat) (fs : List Fq) (fn : List He5.DefA) : PySem.W.Hook where
  α := He.AlD
  obs := fun s => obsBG n fs fn s.heap.get?
  val := fun _ => valF fn
  says := fun _ h => ∃ K : PySem.W.Frag, K.In h ∧ SaysF fs fn K
  of := fun _ _ e => ⟨_, frG_in, e⟩
  keeps := fun _ _ _ ⟨K, hK, c⟩ k => ⟨K, PySem.W.Frag.In.keeps hK k, c⟩
theorem obsBG_eq {n : Nat} {fs : List Fq} {fn : List He5.DefA} {g : Addr → Option Obj} {s : Shared} (h : ∀ a, g a = s.heap.get? a) : obsBG n fs fn g = (hookB n fs fn).obs s := by
  have e : g = s.heap.get? := funext h
  rw [e] <;> rfl
end P
namespace P
open PySem PySem.Spec PyProof.Rows L2
section
variable {X : Cx} {pins : List (Addr × Obj)} {σ : L2.St} {H : Hp} {s : Shared}
end
def encD (d : D) : PyData := (toP d).getD .none
def leS (a b : D) : Bool := PySem.W.dataLe false encD a b
def tupNE : PyData → Bool
  | .tuple (_ :: _) => true
  | _ => false
def othP : PyData → Bool
  | .none => false
  | .tuple _ => false
  | _ => true
def sortOk (ds : List D) : Bool := ds.all (fun d => (toP d).isSome && decide ((encD d).depth ≤ 60)) && (ds.all (fun a => ds.all fun b => PySem.W.alike (encD a) (encD b)) && (ds.all (fun d => tupNE (encD d)) || ds.all (fun d => othP (encD d))))
def sortD : List D → Option (List D)
  | [.lst ds] => if sortOk ds then some (ds.mergeSort leS) else none
  | _ => none
section
variable {X : Cx}
end
def sortI (ns : List Int) : List Int := ns.mergeSort fun a b => decide (a ≤ b)
theorem sortOk_ints (ns : List Int) : sortOk (ns.map .int) = true := by
  unfold sortOk
  simp only [Bool.and_eq_true, List.all_eq_true, Bool.or_eq_true, decide_eq_true_eq, List.mem_map]
  refine ⟨?_, ?_, .inr ?_⟩
  · rintro _ ⟨i, _, rfl⟩; exact ⟨rfl, by show PyData.depth (.int i) ≤ 60; simp [PyData.depth]⟩
  · rintro _ ⟨i, _, rfl⟩ _ ⟨j, _, rfl⟩; show PySem.W.alike (.int i) (.int j) = true; simp [PySem.W.alike]
  · rintro _ ⟨i, _, rfl⟩; rfl
theorem leS_int (a b : Int) : leS (.int a) (.int b) = decide (a ≤ b) := by
  have := congrFun (congrFun (PySem.W.dataLe_int (fun b : Int => b)) a) b
  exact this
@[simp] theorem sortD_ints (ns : List Int) : sortD [.lst (ns.map .int)] = some ((sortI ns).map .int) := by
  show (if sortOk (ns.map .int) then _ else _) = _
  rw [if_pos (sortOk_ints ns)]
  congr 1
  unfold sortI
  rw [List.map_mergeSort]
  intro a _ b _
  exact (leS_int a b).symm
@[simp] def tupO (i : Nat) : M D := fun ρ => match getL ρ i with
  | some ds => .ok (.tup ds) ρ
  | none => .stuck
section
variable {X : Cx} {Wx : WX}
end
@[simp] def lendN (is : List Nat) (m : M Slot) : M Slot := fun ρ => match frzL is ρ with
  | some ρ1 => (match m (ρ1.map keepV) with
    | .ok (.ownL ss) _ => (match valsOf ss with
      | some ds => if ds.all flD then .ok (.ownL ss) ρ else .stuck
      | none => .stuck)
    | _ => .stuck)
  | none => .stuck
@[simp] def lendB (is : List Nat) (m : M Bool) : M Bool := fun ρ => match frzL is ρ with
  | some ρ1 => (match m (ρ1.map keepV) with
    | .ok b _ => .ok b ρ
    | _ => .stuck)
  | none => .stuck
end P
namespace P
open PySem PySem.Spec PyProof.Rows L2
section
variable {K : PySem.W.Frag} {L W : List Addr} {ρ : Env} {σ : L2.St} {H : Hp}
end
def getI (ρ : Env) (i j : Nat) : Option (List Slot × List D) := match ρ[i]? with
  | some (.ownL ss) => (match ss[j]? with
    | some (.ownL ts) => (valsOf ts).map fun ds => (ss, ds)
    | _ => none)
  | _ => none
@[simp] def appIxM (i j : Nat) (m : M D) : M D := fun ρ => match getI ρ i j with
  | some (ss, ds) => (match m (ρ.map keepV) with
    | .ok d _ => if ds.length < 1000000 then .ok .non (ρ.set i (.ownL (ss.set j (ownV (ds ++ [d]))))) else .stuck
    | _ => .stuck)
  | none => .stuck
end P
namespace P
open PySem PySem.Spec PyProof.Rows L2
@[simp] def strM1 (g : Str → D → Option D) (mo ma : M D) : M D := fun ρ => (mo ρ).bd fun o ρ1 => match o with
  | .str x => (ma ρ1).bd fun a ρ2 => ofO (g x a) ρ2
  | _ => .stuck
@[simp] def strN1 (g : Str → D → Option (List D)) (mo ma : M D) : M Slot := fun ρ => (mo ρ).bd fun o ρ1 => match o with
  | .str x => (ma ρ1).bd fun a ρ2 => ofO ((g x a).map fun es => .ownL (es.map .val)) ρ2
  | _ => .stuck
section
variable {X : Cx} {Wx : WX}
theorem px_str1 {name : Str} {mid : String} {r : V → List V → Hp → VK → Prop} {g : Str → D → Option D} {o e : Expr} {mo ma : M D} {apos cpos : Pos} (slot : PySem.Slot "str" name mid) (hty : typeOf (.builtin mid) = pure (.type "method_descriptor")) (hm : MtR X mid r)
    (h2 : ∀ (S : List Addr) (H : Hp) (x : Str) (v : V) (a d : D) (Q : VK), (∀ b ∈ S, Al (H b)) → Rep X.K (hide H S) v a → g x a = some d → (∀ v' H', Ex H H' → Rep X.K (hide H' S) v' d → Q v' H') → r (.str x) [v] H Q)
    (ho : PD X Wx o mo) (ha : PD X Wx e ma) (hbase : attributeBase o name X.env (eval o X.env) = eval o X.env := by rfl)
    (hfew : ((backTo cpos (starEach [e] X.env)).all (fun x => !x.1) && (backToKw cpos (keywordEach [] X.env)).all (fun x => x.1.isSome)
      && decide (([e] : List Expr).length + ([] : List Keyword).length + (if ([] : List Keyword).isEmpty then 0 else 1) < 30)) = true := by rfl)
    (hline : (apos.endLine == cpos.line) = true := by rfl) (hs : starEach [e] X.env = (false, eval e X.env) :: starEach [] X.env := by rfl) (hplain : (backTo cpos (starEach [] X.env)).any (·.1) = false := by rfl) :
    PD X Wx (.Call (.Attribute o name apos) [e] [] cpos) (strM1 g mo ma) := by
  refine PE_imp (pe_bm PySem.F.plainAttrs_str slot hty hm ho (pa_cons ha pa_nil hs) hbase hfew hline hs hplain) fun σ H Q h => ?_
  obtain ⟨ρ, L, W, rl, p⟩ := h
  simp only [vl, strM1, map_bd] at p
  refine bd_D (T := Post X.K Wx σ L W H Q) rl p fun ov od ρ1 W1 H1 st1 rl1 q1 p => ?_
  cases od with
  | str x =>
    rw [q1.str_inv]
    have p := Post.step st1 p
    simp only [map_bd] at p
    refine ⟨rfl, bd_D (T := Post X.K Wx σ L W1 H1 Q) rl1 p fun av ad ρ2 W2 H2 st2 rl2 q2 p => ?_⟩
    obtain ⟨d, hd, p⟩ := Post.ofO p
    exact h2 (W2 ++ L) H2 x av ad d Q rl2.alloc q2 hd fun v' H' ex q => (p.step st2).here rl2 ex q
  | _ => exact p.elim
theorem px_strN1 {name : Str} {mid : String} {r : V → List V → Hp → VK → Prop} {g : Str → D → Option (List D)} {o e : Expr} {mo ma : M D} {apos cpos : Pos} (slot : PySem.Slot "str" name mid) (hty : typeOf (.builtin mid) = pure (.type "method_descriptor")) (hm : MtR X mid r)
    (h2 : ∀ (S : List Addr) (H : Hp) (x : Str) (v : V) (a : D) (es : List D) (Q : VK), (∀ b ∈ S, Al (H b)) → Rep X.K (hide H S) v a → g x a = some es → (∀ ys p, H p = none → Reps X.K (hide H S) ys es → Q (.ref p) (upd H p (.lst ys))) → r (.str x) [v] H Q)
    (ho : PD X Wx o mo) (ha : PD X Wx e ma) (hbase : attributeBase o name X.env (eval o X.env) = eval o X.env := by rfl)
    (hfew : ((backTo cpos (starEach [e] X.env)).all (fun x => !x.1) && (backToKw cpos (keywordEach [] X.env)).all (fun x => x.1.isSome)
      && decide (([e] : List Expr).length + ([] : List Keyword).length + (if ([] : List Keyword).isEmpty then 0 else 1) < 30)) = true := by rfl)
    (hline : (apos.endLine == cpos.line) = true := by rfl) (hs : starEach [e] X.env = (false, eval e X.env) :: starEach [] X.env := by rfl) (hplain : (backTo cpos (starEach [] X.env)).any (·.1) = false := by rfl) :
    PX X Wx (.Call (.Attribute o name apos) [e] [] cpos) (strN1 g mo ma) := by
  refine PE_imp (pe_bm PySem.F.plainAttrs_str slot hty hm ho (pa_cons ha pa_nil hs) hbase hfew hline hs hplain) fun σ H Q h => ?_
  obtain ⟨ρ, L, W, rl, p⟩ := h
  have p : Post X.K Wx σ L W H Q (strN1 g mo ma ρ) := p
  unfold strN1 at p
  refine bd_D (T := Post X.K Wx σ L W H Q) rl p fun ov od ρ1 W1 H1 st1 rl1 q1 p => ?_
  cases od with
  | str x =>
    rw [q1.str_inv]
    have p := Post.step st1 p
    refine ⟨rfl, bd_D (T := Post X.K Wx σ L W1 H1 Q) rl1 p fun av ad ρ2 W2 H2 st2 rl2 q2 p => ?_⟩
    cases e : g x ad with
    | none => rw [e] at p; exact p.elim
    | some es =>
      rw [e] at p
      have p : Post X.K Wx σ L W1 H1 Q (.ok (.ownL (es.map .val)) ρ2) := p
      refine h2 (W2 ++ L) H2 x av ad es Q rl2.alloc q2 e fun ys pp hp q => ?_
      exact (p.step st2).newL rl2 (Ex.new hp) hp upd_same (q.mono (hide_mono (Ex.new hp) fun a h => by
        simp only [List.cons_append, List.mem_cons] at h
        rcases h with h | h
        · subst h; exact .inr hp
        · exact .inl h))
  | _ => exact p.elim
def asStrs : List D → Option (List Str)
  | [] => some []
  | .str x :: r => (asStrs r).map (x :: ·)
  | _ :: _ => none
theorem asStrs_eq : ∀ {ds : List D} {ys : List Str}, asStrs ds = some ys → ds = ys.map .str := by
  intro ds
  induction ds with
  | nil => intro ys h; simp [asStrs] at h; subst h; rfl
  | cons d r ih =>
    intro ys h
    unfold asStrs at h
    split at h
    · rename_i h0; cases h0
    · rename_i x r' h0
      cases h0
      obtain ⟨qs, h1, rfl⟩ := Option.map_eq_some_iff.mp h
      rw [List.map_cons, ← ih h1]
    · cases h
theorem Reps.strs {K : PySem.W.Frag} {G : Hp} : ∀ {xs : List V} {ys : List Str}, Reps K G xs (ys.map D.str) → xs = ys.map V.str
  | _, [], .nil => rfl
  | _, _ :: _, .cons h r => by cases h; rw [Reps.strs r]; rfl
theorem reps_strs {K : PySem.W.Frag} {G : Hp} : ∀ ys : List Str, Reps K G (ys.map V.str) (ys.map D.str)
  | [] => .nil
  | y :: ys => .cons (.str y) (reps_strs ys)
def joinD (x : Str) : D → Option D
  | .lst ds => match asStrs ds with
    | some ys => if (ys.map (·.length)).sum + ys.length * x.length ≤ 1000000 then some (.str (Txt.join x ys)) else none
    | none => none
  | _ => none
theorem px_join {o e : Expr} {mo ma : M D} {apos cpos : Pos} (ho : PD X Wx o mo) (ha : PD X Wx e ma) (hbase : attributeBase o "join" X.env (eval o X.env) = eval o X.env := by rfl)
    (hfew : ((backTo cpos (starEach [e] X.env)).all (fun x => !x.1) && (backToKw cpos (keywordEach [] X.env)).all (fun x => x.1.isSome)
      && decide (([e] : List Expr).length + ([] : List Keyword).length + (if ([] : List Keyword).isEmpty then 0 else 1) < 30)) = true := by rfl)
    (hline : (apos.endLine == cpos.line) = true := by rfl) (hs : starEach [e] X.env = (false, eval e X.env) :: starEach [] X.env := by rfl) (hplain : (backTo cpos (starEach [] X.env)).any (·.1) = false := by rfl) :
    PD X Wx (.Call (.Attribute o "join" apos) [e] [] cpos) (strM1 joinD mo ma) :=
  px_str1 PySem.F.slot_str_join PySem.F.type_str_join mt_join (fun S H x v a d Q al r e k => by
    unfold joinD at e
    split at e
    · split at e
      · rename_i ds ys hy
        split at e
        · rename_i hl
          cases e
          obtain ⟨p, xs, rfl, h, q⟩ := r.lst_inv
          have := asStrs_eq hy
          subst this
          rw [q.strs] at h
          exact ⟨x, p, ys, rfl, rfl, .inl (SqL.of (hide_some h).2), by omega, k _ H (Ex.refl H) (.str _)⟩
        · cases e
      · cases e
    · cases e) ho ha hbase hfew hline hs hplain
def splitD (x : Str) : D → Option (List D)
  | .str y => if (y.length == 0) = false ∧ x.length ≤ 900000 then some ((Txt.split x y).map .str) else none
  | _ => none
theorem px_split {o e : Expr} {mo ma : M D} {apos cpos : Pos} (ho : PD X Wx o mo) (ha : PD X Wx e ma) (hbase : attributeBase o "split" X.env (eval o X.env) = eval o X.env := by rfl)
    (hfew : ((backTo cpos (starEach [e] X.env)).all (fun x => !x.1) && (backToKw cpos (keywordEach [] X.env)).all (fun x => x.1.isSome)
      && decide (([e] : List Expr).length + ([] : List Keyword).length + (if ([] : List Keyword).isEmpty then 0 else 1) < 30)) = true := by rfl)
    (hline : (apos.endLine == cpos.line) = true := by rfl) (hs : starEach [e] X.env = (false, eval e X.env) :: starEach [] X.env := by rfl) (hplain : (backTo cpos (starEach [] X.env)).any (·.1) = false := by rfl) :
    PX X Wx (.Call (.Attribute o "split" apos) [e] [] cpos) (strN1 splitD mo ma) :=
  px_strN1 PySem.F.slot_str_split PySem.F.type_str_split mt_split (fun S H x v a es Q al r e k => by
    unfold splitD at e
    split at e
    · rename_i y
      split at e
      · rename_i hl
        cases e
        rw [r.str_inv]
        exact ⟨x, y, rfl, rfl, hl.1, by rw [sizeLine_eq]; omega, fun p hp => k _ p hp (reps_strs _)⟩
      · cases e
    · cases e) ho ha hbase hfew hline hs hplain
end
end P
namespace P
open PySem PySem.Spec PyProof.Rows L2
mutual
/-- plain data, empty dictionaries too -/
def toPE : D → Option PyData
  | .non => some .none
  | .bl b => some (.bool b)
  | .int i => some (.int i)
  | .str x => some (.str x)
  | .tup ds => (toPEs ds).map .tuple
  | .lst ds => (toPEs ds).map .list
  | .dct false _ [] [] => some (.dict [])
  | _ => none
def toPEs : List D → Option (List PyData)
  | [] => some []
  | d :: ds => match toPE d, toPEs ds with
    | some p, some ps => some (p :: ps)
    | _, _ => none
end
mutual
inductive RdE (h : Heap) : Value → PyData → Prop
  | non : RdE h .none .none
  | bl (b : Bool) : RdE h (.bool b) (.bool b)
  | int (i : Int) (t : Nat) : RdE h (.int i t) (.int i)
  | str (x : Str) (t : Nat) : RdE h (.str x t) (.str x)
  | lst {a : Addr} {o : Obj} {vs : Array Value} {n : Nat} {xs : List PyData} (g : h.get? a = some o) (c : o.cls = .type "list") (d : o.data = .seq vs n) (r : RdEs h vs.toList xs) : RdE h (.ref a) (.list xs)
  | tup {a : Addr} {o : Obj} {vs : Array Value} {n : Nat} {xs : List PyData} (g : h.get? a = some o) (c : o.cls = .type "tuple") (d : o.data = .seq vs n) (r : RdEs h vs.toList xs) : RdE h (.ref a) (.tuple xs)
  | dct {a : Addr} {o : Obj} {n : Nat} (g : h.get? a = some o) (c : o.cls = .type "dict") (d : o.data = .dict #[] n) (y : (a == sysModules) = false) : RdE h (.ref a) (.dict [])
inductive RdEs (h : Heap) : List Value → List PyData → Prop
  | nil : RdEs h [] []
  | cons {v : Value} {p : PyData} {vs : List Value} {ps : List PyData} (q : RdE h v p) (r : RdEs h vs ps) : RdEs h (v :: vs) (p :: ps)
end
section
variable {h : Heap}
mutual
theorem RdE.reads : ∀ {v : Value} {p : PyData}, RdE h v p → ∃ as, Reads h v p as
  | _, _, .non => ⟨_, .none⟩
  | _, _, .bl b => ⟨_, .bool b⟩
  | _, _, .int i t => ⟨_, .int i t⟩
  | _, _, .str x t => ⟨_, .str x t⟩
  | _, _, .lst g c d r => let ⟨_, q⟩ := RdEs.reads r; ⟨_, .list g c d q⟩
  | _, _, .tup g c d r => let ⟨_, q⟩ := RdEs.reads r; ⟨_, .tuple g c d q⟩
  | _, _, .dct g c d y => ⟨_, .dict (kvs := []) g c d .nil .nil⟩
theorem RdEs.reads : ∀ {v : List Value} {p : List PyData}, RdEs h v p → ∃ as, ReadsAll h v p as
  | _, _, .nil => ⟨_, .nil⟩
  | _, _, .cons q r => let ⟨_, a⟩ := RdE.reads q; let ⟨_, b⟩ := RdEs.reads r; ⟨_, .cons a b⟩
end
variable {prog : Program} {w : World}
def Shw (prog : Program) (w : World) (h : Heap) (v : Value) (p : PyData) : Prop := ∃ bs, ReadAtMost h p.depth bs ∧ ReprK prog w bs h p.depth v p.shown
def Shws (prog : Program) (w : World) (h : Heap) (vs : List Value) (ps : List PyData) : Prop := ∃ bs, ReadAtMost h (PyData.depthAll ps) bs ∧ ReprAllK prog w bs h (PyData.depthAll ps) vs (PyData.shownAll ps)
theorem flat_reads {v : Value} {p : PyData} {as : List Addr} (r : Reads h v p as) (hd : p.hasDict = false) (hs : p.showable = true) (hz : p.shown.length ≤ sizeLine) : Shw prog w h v p := ReprK.of_reads r hs (PyData.noDict_hsm hd) hz
mutual
theorem RdE.shw : ∀ {v : Value} {p : PyData}, RdE h v p → p.showable = true → p.shown.length ≤ sizeLine → Shw prog w h v p
  | _, _, .non, hs, hz => flat_reads .none (by simp only [PyData.hasDict]) hs hz
  | _, _, .bl b, hs, hz => flat_reads (.bool b) (by simp only [PyData.hasDict]) hs hz
  | _, _, .int i t, hs, hz => flat_reads (.int i t) (by simp only [PyData.hasDict]) hs hz
  | _, _, .str x t, hs, hz => flat_reads (.str x t) (by simp only [PyData.hasDict]) hs hz
  | _, _, .lst (a := a) (o := o) (vs := vs) (n := n) (xs := xs) g c d r, hs, hz => by
    have z : (listText (PyData.shownAll xs)).length ≤ sizeLine := by simpa only [PyData.shown] using hz
    obtain ⟨bs, k1, k2⟩ := RdEs.shw r (by simpa only [PyData.showable] using hs) fun t ht => Nat.le_trans (listText_mem_le ht) z
    obtain ⟨_, q⟩ := RdE.reads (.lst g c d r)
    have na := not_mem_of_deeper q (by simp only [PyData.depth]; omega) k1
    refine ⟨a :: bs, ReadAtMost.cons q (by simp only [PyData.depth]; omega) k1, ?_⟩
    simp only [PyData.depth, PyData.shown]
    cases vs with
    | mk l =>
      cases l with
      | nil =>
        have r' : RdEs h [] xs := r
        cases r'
        simp only [PyData.shownAll, listText_nil]
        exact .listEmpty g c d
      | cons x l => exact .list g c d na (by simpa using k2.length_eq) fun i y e => k2.item i y (by simpa using e)
  | _, _, .tup (a := a) (o := o) (vs := vs) (n := n) (xs := xs) g c d r, hs, hz => by
    have z : (tupleText (PyData.shownAll xs)).length ≤ sizeLine := by simpa only [PyData.shown] using hz
    obtain ⟨bs, k1, k2⟩ := RdEs.shw r (by simpa only [PyData.showable] using hs) fun t ht => Nat.le_trans (tupleText_mem_le ht) z
    obtain ⟨_, q⟩ := RdE.reads (.tup g c d r)
    have na := not_mem_of_deeper q (by simp only [PyData.depth]; omega) k1
    refine ⟨a :: bs, ReadAtMost.cons q (by simp only [PyData.depth]; omega) k1, ?_⟩
    simp only [PyData.depth, PyData.shown]
    exact .tuple g c d na k2
  | _, _, .dct (a := a) g c d y, hs, hz => by
    obtain ⟨_, q⟩ := RdE.reads (.dct g c d y)
    have k1 : ReadAtMost h 0 [] := fun _ h => nomatch h
    have na := not_mem_of_deeper q (by simp only [PyData.depth]; omega) k1
    refine ⟨[a], ReadAtMost.cons q (Nat.zero_le _) k1, ?_⟩
    simp only [PyData.depth, PyData.shown, PyData.shownKv]
    exact ReprK.dict (d := 0) (ps := []) g c d y na .nil
theorem RdEs.shw : ∀ {v : List Value} {p : List PyData}, RdEs h v p → PyData.showableAll p = true → (∀ t ∈ PyData.shownAll p, t.length ≤ sizeLine) → Shws prog w h v p
  | _, _, .nil, _, _ => ⟨[], (fun _ h => nomatch h), by simp only [PyData.shownAll]; exact .nil⟩
  | _, _, .cons (p := p) (ps := ps) q r, hs, hz => by
    have s2 : p.showable = true ∧ PyData.showableAll ps = true := by simpa [PyData.showableAll] using hs
    obtain ⟨b1, h1, k1⟩ := RdE.shw q s2.1 (hz _ (by simp only [PyData.shownAll]; exact List.mem_cons_self ..))
    obtain ⟨b2, h2, k2⟩ := RdEs.shw r s2.2 fun t ht => hz t (by simp only [PyData.shownAll]; exact List.mem_cons_of_mem _ ht)
    refine ⟨b1 ++ b2, (h1.mono ?_).append (h2.mono ?_), ?_⟩
    · simp only [PyData.depthAll]; exact Nat.le_max_left _ _
    · simp only [PyData.depthAll]; exact Nat.le_max_right _ _
    · simp only [PyData.depthAll, PyData.shownAll]
      exact .cons ((k1.more fun b hb => List.mem_append_left _ hb).level_le (Nat.le_max_left _ _)) (k2.more_le (fun b hb => List.mem_append_right _ hb) (Nat.le_max_right _ _))
end
theorem RdE.call {a : Addr} {p : PyData} (r : RdE h (.ref a) p) (hs : p.showable = true) (hz : p.shown.length ≤ sizeLine) : ∃ T idr, ShowsBy prog w h a p T idr := by
  cases r with
  | lst g c d r =>
    rename_i o vs n xs
    have z : (listText (PyData.shownAll xs)).length ≤ sizeLine := by simpa only [PyData.shown] using hz
    obtain ⟨bs, k1, k2⟩ := RdEs.shw (prog := prog) (w := w) r (by simpa only [PyData.showable] using hs) fun t ht => Nat.le_trans (listText_mem_le ht) z
    obtain ⟨_, q⟩ := RdE.reads (.lst g c d r)
    have na := not_mem_of_deeper q (by simp only [PyData.depth]; omega) k1
    refine ⟨"list", "list.__repr__", F.slot_list_repr.toG, F.slot_list_str, F.slot_list_format, fun s hk => ⟨o, hk _ _ g, c⟩, fun A E s Q hg hu hk hQ => ?_⟩
    simp only [PyData.depth] at hu
    simp only [PyData.shown] at hQ
    cases vs with
    | mk l =>
      cases l with
      | nil =>
        have r' : RdEs h [] xs := r
        cases r'
        simp only [PyData.shownAll, listText_nil] at hQ
        exact call_list_repr_empty ⟨o, hk _ _ g, c⟩ (hk _ _ g) d (hQ s.heap _ _ fun _ _ e => e)
      | cons x l => exact call_list_reprK g c d na (by simpa using k2.length_eq) (fun i y e => k2.item i y (by simpa using e)) hg (fun b _ => Clear.nil b) hu hk hQ z
  | tup g c d r =>
    rename_i o vs n xs
    have z : (tupleText (PyData.shownAll xs)).length ≤ sizeLine := by simpa only [PyData.shown] using hz
    obtain ⟨bs, k1, k2⟩ := RdEs.shw (prog := prog) (w := w) r (by simpa only [PyData.showable] using hs) fun t ht => Nat.le_trans (tupleText_mem_le ht) z
    obtain ⟨_, q⟩ := RdE.reads (.tup g c d r)
    have na := not_mem_of_deeper q (by simp only [PyData.depth]; omega) k1
    refine ⟨"tuple", "tuple.__repr__", F.slot_tuple_repr, F.slot_tuple_str, F.slot_tuple_format, fun s hk => ⟨o, hk _ _ g, c⟩, fun A E s Q hg hu hk hQ => ?_⟩
    simp only [PyData.depth] at hu
    simp only [PyData.shown] at hQ
    exact call_tuple_reprK g c d na k2 hg (fun b _ => Clear.nil b) hu hk hQ z
  | dct g c d y =>
    rename_i o n
    obtain ⟨_, q⟩ := RdE.reads (.dct g c d y)
    have k1 : ReadAtMost h 0 [] := fun _ h => nomatch h
    have na := not_mem_of_deeper q (by simp only [PyData.depth]; omega) k1
    refine ⟨"dict", "dict.__repr__", F.slot_dict_repr, F.slot_dict_str, F.slot_dict_format, fun s hk => ⟨o, hk _ _ g, c⟩, fun A E s Q hg hu hk hQ => ?_⟩
    simp only [PyData.depth] at hu
    simp only [PyData.shown, PyData.shownKv] at hQ
    exact call_dict_reprK (d := 0) (ps := []) g c d y na .nil hg (fun b _ => Clear.nil b) (by simp only [PyData.depthKv] at hu; omega) hk hQ (by decide +kernel)
end
section
variable {X : Cx} {pins : List (Addr × Obj)} {σ : L2.St} {H : Hp} {s : Shared}
mutual
theorem Rep.rdE (I : Inv X pins σ H s) : ∀ {v : V} {d : D} {p : PyData} {u : Value}, Rep X.K H v d → toPE d = some p → RelV v u → RdE s.heap u p
  | _, _, _, u, .non, h, r => by
    simp only [toPE, Option.some.injEq] at h; subst h
    obtain rfl : u = Value.none := r
    exact .non
  | _, _, _, u, .bl b, h, r => by
    simp only [toPE, Option.some.injEq] at h; subst h
    obtain rfl : u = Value.bool b := r
    exact .bl b
  | _, _, _, u, .int i, h, r => by
    simp only [toPE, Option.some.injEq] at h; subst h
    obtain ⟨t, rfl⟩ := r
    exact .int i t
  | _, _, _, u, .str x, h, r => by
    simp only [toPE, Option.some.injEq] at h; subst h
    obtain ⟨t, rfl⟩ := r
    exact .str x t
  | _, _, _, u, .tup hq q, h, r => by
    simp only [toPE, Option.map_eq_some_iff] at h
    obtain ⟨ps, h, rfl⟩ := h
    cases r
    obtain ⟨its, rv, ⟨o, ho, hc, n, hd⟩, _⟩ := I.tuple (.inl (.inl hq))
    exact .tup ho hc hd (Reps.rdE I q h rv)
  | _, _, _, u, .lst hq q, h, r => by
    simp only [toPE, Option.map_eq_some_iff] at h
    obtain ⟨ps, h, rfl⟩ := h
    cases r
    obtain ⟨its, rv, ⟨o, n, ho, hc, _, hd⟩, _⟩ := I.list (.inl (.inl hq))
    exact .lst ho hc hd (Reps.rdE I q h rv)
  | _, _, _, _, .scr hq, h, _ => by simp only [toPE] at h; cases h
  | _, _, _, u, .dK (l := l) (kvs := kvs) (vs := vs) hq q, h, r => by
    cases kvs with
    | nil =>
      cases q
      simp only [List.map_nil, toPE, Option.some.injEq] at h
      subst h
      cases r
      obtain ⟨_, y, vs, rel, o, es, ep, g, c, d, _, ps, _⟩ := dk_rd I.hok (show Rd H _ (.dK []) from by unfold Rdl at hq; split at hq; exact .inr hq; exact .inl hq)
      cases rel
      have : es = #[] := by
        cases es with
        | mk l => cases l with
          | nil => rfl
          | cons x l => cases ps
      subst this
      exact .dct g c.1 d y
    | cons x kvs => cases q; simp only [List.map_cons, toPE] at h; cases h
  | _, _, _, _, .dT _ _, h, _ => by simp only [toPE] at h; cases h
  | _, _, _, _, .ins _ _ _, h, _ => by simp only [toPE] at h; cases h
  | _, _, _, _, .cls _, h, _ => by simp only [toPE] at h; cases h
theorem Reps.rdE (I : Inv X pins σ H s) : ∀ {v : List V} {d : List D} {p : List PyData} {u : List Value}, Reps X.K H v d → toPEs d = some p → Vals v u → RdEs s.heap u p
  | _, _, _, _, .nil, h, r => by
    simp only [toPEs, Option.some.injEq] at h; subst h
    cases r
    exact .nil
  | _, _, _, _, .cons q rs, h, r => by
    simp only [toPEs] at h
    split at h
    · rename_i p ps h1 h2
      cases h
      cases r with
      | cons r1 r2 => exact .cons (Rep.rdE I q h1 r1) (Reps.rdE I rs h2 r2)
    · cases h
end
end
end P
namespace P
open PySem PySem.Spec PyProof.Rows L2
section
variable {prog : Program} {w : World} {A : Around} {E : Value → Shared → Prop} {s : Shared}
end
section
variable {X : Cx}
def rSetL (K : PySem.W.Frag) (w : World) : List V → Hp → VK → Prop := fun xs H Q => ∃ (a : Addr) (ns : List Int), xs = [.ref a] ∧ SqL K H a (ns.map V.int) ∧ ns.length ≤ 1000 ∧ ∀ p c, H p = none → c ≤ ns.length → Q (.ref p) (upd H p (SetO w p (fun j => decide (j ∈ ns)) c))
end
def insS (x : Int) : List Int → List Int
  | [] => [x]
  | y :: ys => if x < y then x :: y :: ys else if x = y then y :: ys else y :: insS x ys
def sortS (ns : List Int) : List Int := ns.foldr insS []
section
variable {X : Cx} {Wx : WX} {ma : M D} {e : Expr} {p p2 pos pos2 : Pos}
end
end P
namespace P
open PySem PySem.Spec PyProof.Rows L2
end P
namespace P
open PySem PySem.Spec PyProof.Rows L2
section
variable {X : Cx}
end
section
variable {X : Cx} {Wx : WX} {ma : M D} {e : Expr} {p p2 pos pos2 : Pos}
end
end P
namespace P
open PySem PySem.Spec PyProof.Rows L2
section
variable {X : Cx} {pins : List (Addr × Obj)} {σ : L2.St} {H : Hp} {s : Shared} {a b : Addr} {k : List Key} {d : V} {r : Value} {E : Value → Shared → Prop}
end
section
variable {X : Cx} {o e f : Expr} {td ty tx : TE} {apos cpos : Pos}
end
end P
namespace P
open PySem PySem.Spec PyProof.Rows L2
def kEqs : List D → List D → Bool
  | [], [] => true
  | a :: as, b :: bs => kEq a b && kEqs as bs
  | _, _ => false
def kEqT : D → D → Bool
  | .tup a, .tup b => kEqs a b
  | _, _ => false
def keysOf : List D → Option (List Key)
  | [] => some []
  | d :: ds => match keyOf d, keysOf ds with
    | some k, some ks => some (k :: ks)
    | _, _ => none
def keyOfT : D → Option (List Key)
  | .tup ds => keysOf ds
  | _ => none
def tKey (k : List Key) : D := .tup (k.map keyD)
def lkT : List D → List D → D → Option D
  | k :: ks, v :: vs, x => if kEqT k x = true then some v else lkT ks vs x
  | _, _, _ => none
section
variable {K : PySem.W.Frag} {G : Hp}
end
def getT (ρ : Env) (i : Nat) : Option (List D × List D) := match ρ[i]? with
  | some (.ownD true ks vs) => some (ks, vs)
  | _ => none
theorem getT_eq {ρ : Env} {i : Nat} {ks vs : List D} (h : getT ρ i = some (ks, vs)) : ρ[i]? = some (.ownD true ks vs) := by
  unfold getT at h
  split at h
  · rename_i e; cases h; exact e
  · cases h
section
variable {K : PySem.W.Frag} {L W : List Addr} {ρ : Env} {σ : L2.St} {H : Hp}
end
@[simp] def dnewTM : M Slot := fun ρ => .ok (.ownD true [] []) ρ
theorem Post.newT {K : PySem.W.Frag} {Wx : WX} {L W : List Addr} {ρ : Env} {σ : L2.St} {H H1 : Hp} {Q : VK} {kvs : List (List Key × V)} {vs : List D} {p : Addr} (h : Post K Wx σ L W H Q (.ok (.ownD true (kvs.map fun kv => tKey kv.1) vs) ρ)) (r : Rl K L W ρ σ H) (e : Ex H H1) (hp : H p = none) (hx : H1 p = some (.dT kvs)) (q : Reps K (hide H1 (p :: W ++ L)) (kvs.map (·.2)) vs) : Q (.ref p) H1 := by
  have np : ∀ a ∈ W ++ L, a ≠ p := fun a ha z => by subst z; exact r.alloc a ha hp
  have r1 := r.ex e
  have ex : Ex (hide H (W ++ L)) (hide H1 (p :: W ++ L)) := hide_mono e fun a h => by
    simp only [List.cons_append, List.mem_cons] at h
    rcases h with h | h
    · subst h; exact .inr hp
    · exact .inl h
  have e0 : ∀ a ∈ W ++ L, H1 a = H a := fun a ha => by
    cases q : H a with
    | none => exact absurd q (r.alloc a ha)
    | some o => exact e a o q
  refine h (.ref p) (p :: W) H1 ⟨ex, fun a h => ?_, fun a ha => e0 a (by simp [ha])⟩ ⟨.cons (f := [p]) (.ownT hx q) (r.rel.mono ex fun a ha => e0 a (by simp [ha])), ?_, ?_, r1.lk⟩
  · rcases List.mem_cons.mp h with h | h
    · subst h; exact .inr hp
    · exact .inl h
  · exact List.nodup_cons.mpr ⟨fun z => np p (by simp [z]) rfl, r.nd⟩
  · intro a ha z
    rcases List.mem_cons.mp z with z | z
    · exact np a (by simp [ha]) z
    · exact r.dj a ha z
end P
namespace P
open PySem PySem.Spec PyProof.Rows L2
@[simp] def setdT (i : Nat) (mk mz : M D) : M D := fun ρ => match getT ρ i with
  | none => .stuck
  | some _ => (mk ρ).bd fun k ρ1 => (mz ρ1).bd fun z ρ2 => match getT ρ2 i with
    | none => .stuck
    | some (ks, vs) => if (keyOfT k).isSome = true ∧ ks.length < 1000000 then (match lkT ks vs k with
      | some d => .ok d ρ2
      | none => .ok z (ρ2.set i (.ownD true (ks ++ [k]) (vs ++ [z])))) else .stuck
@[simp] def ixTO (i : Nat) (mk : M D) : M D := fun ρ => match getT ρ i with
  | none => .stuck
  | some _ => (mk ρ).bd fun k ρ2 => match getT ρ2 i with
    | none => .stuck
    | some (ks, vs) => if (keyOfT k).isSome = true then ofO (lkT ks vs k) ρ2 else .stuck
section
variable {X : Cx} {Wx : WX} {J : List Nat}
end
end P
namespace P
open PySem PySem.Spec PyProof.Rows L2
end P
namespace P
open PySem PySem.Spec PyProof.Rows L2
@[simp] def stuckS : S := fun _ => .stuck
theorem pst_stuck {X : Cx} {Wx : WX} {J : List Nat} {st : Stmt} : PSt X Wx J st stuckS := by
  constructor
  intro pins s σ H E I h
  obtain ⟨_, _, _, _, p⟩ := h
  exact p.elim
@[simp] def stuckM {α : Type} : M α := fun _ => .stuck
section
variable {X : Cx} {Wx : WX}
end
end P
namespace P
open PySem PySem.Spec PyProof.Rows L2
section
variable {K : PySem.W.Frag} {L W : List Addr} {ρ : Env} {σ : L2.St} {H : Hp}
end
@[simp] def FM.out (ρ : Env) : FM → Res Slot
  | .ok s _ => .ok s ρ
  | .er e _ => .er e ρ
  | .stuck => .stuck
@[simp] def callMB (n : Nat) (F : List Slot → FM) (mb : M (List Slot)) : M Slot := fun ρ => (mb ρ).bd fun ss ρ1 => if ss.length = n then (F ss).out ρ1 else .stuck
section
variable {X : Cx} {Wx : WX} {K : PySem.W.Frag} {L W : List Addr} {ρ : Env} {σ : L2.St} {H : Hp} {Q : VK}
end
end P
namespace P
open PySem PySem.Spec PyProof.Rows L2
def charsD (x : Str) : List D := x.cps.toList.map fun c => .str ⟨#[c]⟩
def itS : D → Option (List D)
  | .str x => some (charsD x)
  | _ => none
theorem charsD_len (x : Str) : (charsD x).length = x.cps.size := by simp [charsD]
theorem charsD_get {x : Str} {i : Nat} {d : D} (h : (charsD x)[i]? = some d) : ∃ c, x.cps[i]? = some c ∧ d = .str ⟨#[c]⟩ := by
  unfold charsD at h
  rw [List.getElem?_map, Option.map_eq_some_iff] at h
  obtain ⟨c, h1, rfl⟩ := h
  exact ⟨c, by simpa using h1, rfl⟩
theorem ok_str {K : PySem.W.Frag} {L W : List Addr} {H : Hp} (x : Str) : ItOk K L W H (Its x) (charsD x) := fun W1 H1 st al => by
  refine ⟨fun i hi => by rw [charsD_len] at hi; exact hi, fun i d hd => ?_⟩
  obtain ⟨c, hc, rfl⟩ := charsD_get hd
  refine ⟨(Array.getElem?_eq_some_iff.mp hc).1, fun v H' ⟨eH, c', hc', e⟩ => ?_⟩
  subst eH e
  cases hc.symm.trans hc'
  exact ⟨Ex.refl _, .str _⟩
section
variable {X : Cx} {Wx : WX} {e : Expr} {m : M (List D)} {p pos tpos : Pos} {elts : List Expr} {kk : Nat}
theorem pit_strS {tg e : Expr} {m : M D} (h : PD X Wx e m) : PIt X Wx tg e (iterM itS m) := by
  refine PI_imp (pi_str h) fun σ H R hq => ?_
  obtain ⟨ρ, L, W, rl, p⟩ := hq
  refine bd_I1 rl p fun x d es ρ1 W1 H1 rl1 q e k => ?_
  unfold itS at e
  split at e
  · rename_i x
    cases e
    rw [q.str_inv]
    exact ⟨x, rfl, k _ (ok_str x)⟩
  · cases e
def sliceT : D → Option Int → Option Int → Option D
  | .str x, lo, hi => if x.length ≤ 1000000 then some (.str (Txt.slice x lo hi)) else none
  | _, _, _ => none
@[simp] def sliceTM (m : M D) (ml mh : M (Option Int)) : M D := fun ρ => (m ρ).bd fun d ρ1 => (ml ρ1).bd fun lo ρ2 => (mh ρ2).bd fun hi ρ3 => ofO (sliceT d lo hi) ρ3
def inT : D → D → Option D
  | .str y, .str z => match y.cps.toList with
    | [c] => some (.bl (decide (c ∈ z.cps.toList)))
    | _ => none
  | _, _ => none
theorem opd_inT : OpD X (compareOp .In) inT := ⟨_, op_in_sign, fun S H x y dx dy d Q al rx ry e k => by
  unfold inT at e
  split at e
  · rename_i y z
    split at e
    · rename_i c hc
      cases e
      rw [rx.str_inv, ry.str_inv]
      have : y = ⟨#[c]⟩ := by
        obtain ⟨⟨l⟩⟩ := y
        have hc : l = [c] := hc
        rw [hc]
      exact ⟨c, z, by rw [this], rfl, k _ H (Ex.refl H) (.bl _)⟩
    · cases e
  · cases e⟩
end
end P
namespace P
open PySem PySem.Spec PyProof.Rows L2
def DkE (H : Hp) (d : Option Addr) : Prop := d = none ∨ ∃ dx vs, d = some dx ∧ H dx = some (.xd vs)
theorem ErrRep.dk {K : PySem.W.Frag} {G H : Hp} {c : Value} {d : Option Addr} {e : Err} (r : ErrRep K G c d e) (x : Ex G H) : DkE H d := by
  rcases r.fs with ⟨_, h⟩ | ⟨dx, vs, h1, h2, _, _⟩
  · exact .inl h
  · exact .inr ⟨dx, vs, h1, x _ _ h2⟩
section
variable {X : Cx} {pins : List (Addr × Obj)} {σ : L2.St} {H : Hp} {s : Shared} {a D : Addr} {d : Option Addr}
end
section
variable {X : Cx} {Wx : WX} {a : Addr} {c : Value} {d : Option Addr} {k : Str → Option Bool} {x y n : Str} {p p1 p2 pos : Pos}
end
end P
namespace P
open PySem PySem.Spec PyProof.Rows L2
structure FnE (P : Program) (w : World) (K : PySem.W.Frag) (mg : Str → Option Value) (base : Heap) (k : Nat) (f : Addr) (fd : FuncData) (n : Str) (F : Err → FR) : Prop where
  run : ∀ (A : Around) (outer : List PySem.Env) (s : Shared) (H : Hp) (args : Args) (p : Addr × Obj) (c : Value) (d : Option Addr) (e : Err) (L : List Addr) (Q : VK), L2H.RoomH k A → L2H.Hot1 A p → L2H.PinOk outer H s p → Env0 P w K mg base A outer s H →
    BindsTo s fd args [(n, .ref p.1)] → Zc c d p.2 → (∀ a ∈ L, Al (H a)) → ErrRep K (hide H L) c d e → FRP K L [] H Q (fun _ _ _ => False) (F e) →
    codeAny (model P w) A (.call (.ref f) args) (CR (L2N.CX P w) outer P w H s Q fun _ _ _ => False) s
section
variable {X : Cx} {Wx : WX} {a f : Addr} {oe : Obj} {c : Value} {d : Option Addr} {k : Nat} {fd : FuncData} {F : Err → FR} {x n m : Str} {p p1 pos : Pos}
end
section
variable {P : Program} {w : World} {K : PySem.W.Frag} {mg : Str → Option Value} {base : Heap} {x qual n : Str} {params : Arguments} {body : List Stmt} {scope : Scope} {f : Addr} {fd : FuncData} {N : List Str} {k : Nat}
end
end P
namespace P
open PySem PySem.Spec PyProof.Rows HotX
section
variable {prog : Program} {w : World} {A : Around} {E : Value → Shared → Prop} {s : Shared}
end
end P
namespace P
open PySem PySem.Spec PyProof.Rows L2
section
variable {X : Cx}
end
end P
namespace P
open PySem PySem.Spec PyProof.Rows L2
section
variable {X : Cx} {s0 : Shared} {H0 : Hp} {scope : Scope} {ce : PySem.Env} {fp : List Addr} {pins : List (Addr × Obj)} {σ : L2.St} {H : Hp} {s : Shared}
end
end P
namespace P
open PySem PySem.Spec PyProof.Rows L2
section
variable {B : Cx} {tg elt : Expr} {ifs : List Expr} {J : It} {fp : List Addr} {it D : Addr} {tn : Nat → Heap → Prop} {g : TG} {tt : TT} {te : TE} {vs : List Nat} {W : Nat → Nat → Hp → Prop} {σ : L2.St} {QD : Hp → Prop} {R : Result → Shared → Prop}
end
section
variable {X : Cx} {pins : List (Addr × Obj)} {σ : L2.St} {H : Hp} {s : Shared}
end
end P
namespace P
open PySem PySem.Spec PyProof.Rows L2
section
variable {X : Cx} {Wx : WX} {J : List Nat}
end
end P
namespace P
open PySem PySem.Spec PyProof.Rows L2
section
variable {X : Cx} {Wx : WX} {a : Addr} {c : Value} {d : Option Addr} {k : Str → Option Bool} {x y n : Str} {p p1 p2 pos : Pos}
end
end P
namespace P
open PySem PySem.Spec PyProof.Rows L2
section
variable {X : Cx} {Wx : WX} {a f : Addr} {oe : Obj} {pn : List (Addr × Obj)} {c : Value} {d : Option Addr} {k : Nat} {fd : FuncData} {F : Err → FR} {x n m : Str} {p p1 pos : Pos}
end
end P
namespace P
open PySem PySem.Spec PyProof.Rows L2
section
variable {x : Str} {ds es : List D} {s0 s1 s2 s3 : Slot} {ρ : Env}
end
end P
namespace P
open PySem PySem.Spec PyProof.Rows L2
section
variable {X : Cx} {Wx : WX} {J : List Nat}
end
end P
namespace P
open PySem PySem.Spec PyProof.Rows L2
section
variable {K : PySem.W.Frag} {a C : Addr}
end
section
variable {X : Cx} {pins : List (Addr × Obj)} {σ : L2.St} {H : Hp} {s : Shared} {a C : Addr}
end
section
variable {X : Cx} {k : Nat} {c : Str} {g : Addr} {fd : FuncData} {ps : List Str} {F : List D → FR}
end
end P
namespace P
open PySem PySem.Spec PyProof.Rows L2
section
variable {prog : Program} {w : World} {A : Around} {R : Result → Shared → Prop} {s : Shared} {elt t0 i0 t1 i1 : Expr} {scope : Scope} {pos : Pos} {it acc : Value} {env : PySem.Env}
end
section
variable {X : Cx}
end
end P
namespace P
open PySem PySem.Spec PyProof.Rows L2
section
variable {P : Program} {w : World} {A : Around} {E : Value → Shared → Prop} {s : Shared} {a : Addr}
end
end P
namespace P
open PySem PySem.Spec PyProof.Rows L2
def setI (w : World) (a : Addr) (ks : List Int) : HO := SetO w a (fun j => decide (j ∈ ks)) (sortS ks).length
@[simp] theorem al_setI {w : World} {a : Addr} {ks : List Int} : Al (some (setI w a ks)) := ⟨nofun, nofun⟩
def itC : D → Option (List D)
  | .lst ds => some ds
  | .tup ds => some ds
  | _ => none
@[simp] theorem itC_l {ds : List D} : itC (.lst ds) = some ds := rfl
@[simp] theorem itC_t {ds : List D} : itC (.tup ds) = some ds := rfl
section
variable {K : PySem.W.Frag} {L W W' : List Addr} {ρ : Env} {σ : L2.St} {H H' : Hp} {p : Addr}
theorem Rl.unlock (r : Rl K (p :: L) W ρ σ H) : Rl K L W ρ σ H := by
  refine ⟨r.rel.mono (hide_mono (Ex.refl _) fun a h => ?_) fun a _ => rfl, r.nd, fun a ha => r.dj a (by simp [ha]), fun a ha => r.lk a (by simp [ha])⟩
  simp only [List.mem_append, List.mem_cons] at h ⊢
  rcases h with h | h
  · exact .inl (.inl h)
  · exact .inl (.inr (.inr h))
theorem Stp.forget (a : Stp L W H (p :: W') H') : Stp L W H W' H' := by
  refine ⟨fun x o h => ?_, fun x hx => a.new x (by simp [hx]), a.lk⟩
  refine hide_mono (Ex.refl _) (fun y hy => ?_) x o (a.ex x o h)
  simp only [List.mem_append, List.mem_cons, List.cons_append] at hy ⊢
  exact .inl (.inr hy)
end
section
variable {X : Cx} {Wx : WX}
end
end P
namespace P
open PySem PySem.Spec PyProof.Rows L2
section
variable {X : Cx}
end
section
variable {X : Cx} {Wx : WX} {ma : M D} {e : Expr} {p p2 pos pos2 : Pos}
end
end P
namespace P
open PySem PySem.Spec PyProof.Rows L2
section
variable {prog : Program} {w : World} {A : Around} {E : Value → Shared → Prop} {s : Shared}
end
section
variable {X : Cx}
end
section
variable {X : Cx} {Wx : WX} {ma : M D} {e : Expr} {p p2 pos pos2 : Pos}
end
end P
namespace P
open PySem PySem.Spec PyProof.Rows L2
end P
namespace P
open PySem PySem.Spec PyProof.Rows L2
section
variable {X : Cx} {Wx : WX} {J : List Nat}
end
end P
namespace P
open PySem PySem.Spec PyProof.Rows L2
section
variable {K : PySem.W.Frag} {G G' H H' : Hp}
end
def getF (ρ : Env) (i : Nat) (c f : Str) : Option (List D) := match ρ[i]? with
  | some (.ownI c' ns ss) => if c' = c then (match look f ns ss with
    | some (.ownL ts) => valsOf ts
    | _ => none) else none
  | _ => none
def setF (ρ : Env) (i : Nat) (f : Str) (es : List D) : Env := match ρ[i]? with
  | some (.ownI c ns ss) => ρ.set i (.ownI c ns (putS f (ownV es) ns ss))
  | _ => ρ
section
variable {K : PySem.W.Frag} {L W : List Addr} {ρ : Env} {σ : L2.St} {H : Hp}
end
@[simp] def appF (i : Nat) (c f : Str) (m : M (List D)) : M D := fun ρ => match getF ρ i c f with
  | none => .stuck
  | some ds => match m (ρ.map keepV) with
    | .ok [d] _ => if ds.length < 1000000 then .ok .non (setF ρ i f (ds ++ [d])) else .stuck
    | _ => .stuck
@[simp] def insF (i : Nat) (c f : Str) (m : M (List D)) : M D := fun ρ => match getF ρ i c f with
  | none => .stuck
  | some ds => match m (ρ.map keepV) with
    | .ok [.int k, d] _ => if ds.length < 1000000 ∧ 0 ≤ k ∧ k < 1000000 then .ok .non (setF ρ i f (ds.take k.toNat ++ [d] ++ ds.drop k.toNat)) else .stuck
    | _ => .stuck
@[simp] def popF (i : Nat) (c f : Str) : M D := fun ρ => match getF ρ i c f with
  | none => .stuck
  | some ds => match ds[ds.length - 1]? with
    | some d => .ok d (setF ρ i f ds.dropLast)
    | none => .stuck
section
variable {X : Cx} {Wx : WX} {J : List Nat}
end
end P
namespace P
open PySem PySem.Spec PyProof.Rows L2
section
variable {X : Cx} {pins : List (Addr × Obj)} {σ : L2.St} {H : Hp} {s : Shared} {E : Value → Shared → Prop}
end
section
variable {X : Cx}
end
end P
namespace P
open PySem PySem.Spec PyProof.Rows L2
section
variable {K : PySem.W.Frag} {G H : Hp}
end
section
variable {X : Cx} {Wx : WX} {J : List Nat}
end
end P
namespace P
open PySem PySem.Spec PyProof.Rows L2 RZ
abbrev ZG (h : Heap) (z TI TO : Addr) (f0 : Value) (f1 : Bool) : Prop :=
  h.get? z = some { cls := .type "zip", dict := none, data := .fields #[f0, .bool f1, .bool false, .ref TI, .ref TO], slots := #[] }
section
variable {prog : Program} {w : World} {A : Around} {E : Value → Shared → Prop} {s : Shared}
structure ZSt (z TI TO i1 i2 l1 l2 : Addr) (k : Nat) (h : Heap) : Prop where
  z : ∃ f0 f1, ZG h z TI TO f0 f1 ∧ (f0 = .none ∨ ∃ T : Addr, f0 = rawInt (T : Nat))
  I : IsPair h TI (.ref i1) (.ref i2)
  O : ∃ a b, IsPair h TO a b
  h1 : h.IsTupleIter i1 l1 k
  h2 : h.IsTupleIter i2 l2 k
theorem ZSt.keep {z TI TO i1 i2 l1 l2 : Addr} {k : Nat} {h h' : Heap} (st : ZSt z TI TO i1 i2 l1 l2 k h) (kp : ∀ b ∈ [z, TI, TO, i1, i2], ∀ o, h.get? b = some o → h'.get? b = some o) : ZSt z TI TO i1 i2 l1 l2 k h' := by
  obtain ⟨⟨f0, f1, a1, a2⟩, a3, ⟨a, b, a4⟩, a5, a6⟩ := st
  exact ⟨⟨f0, f1, kp z (by simp) _ a1, a2⟩, kp TI (by simp) _ a3, ⟨a, b, kp TO (by simp) _ a4⟩, a5.at fun o q => kp i1 (by simp) o q, a6.at fun o q => kp i2 (by simp) o q⟩
end
end P
namespace P
open PySem PySem.Spec PyProof.Rows L2 RZ
section
variable {prog : Program} {w : World} {A : Around} {E : Value → Shared → Prop} {s : Shared}
set_option maxHeartbeats 8000000 in
end
end P
namespace P
open PySem PySem.Spec PyProof.Rows L2 RZ
end P
namespace P
open PySem PySem.Spec PyProof.Rows L2
def gStarL (K : PySem.W.Frag) (n : Nat) (t : TGs) : TG := fun v σ H Q => ∃ a xs, v = .ref a ∧ SqL K H a xs ∧ n ≤ xs.length ∧ xs.length ≤ 16384 ∧ ∀ D, H D = none → t (xs.take n ++ [.ref D]) σ (upd H D (.lst (xs.drop n))) Q
theorem pg_starL {X : Cx} {es es' : List Expr} {k : Nat} {pos : Pos} {n : Nat} {t : TGs} (hc : X.calm = true) (h : PGs X es' t) (he : (assignEach es X.env).map (·.2) = (assignEach es' X.env).map (·.2) := by rfl) (hlen : (assignEach es X.env).length = n + 1 := by rfl) (hstar : (assignEach es X.env).findIdx? (·.1) = some n := by rfl) : PG X (.Tuple es k pos) (gStarL X.K n t) := by
  refine ⟨fun pins s σ H v u Q I r hw => ?_⟩
  obtain ⟨a, xs, e1, hq, hn, hl, hw⟩ := hw
  subst e1
  cases r
  obtain ⟨its, rv, pl, hz⟩ := I.list hq
  have ht := pl.isList
  have hh := I.ok.hd hc
  have hsz : its.toArray.size = xs.length := by rw [List.size_toArray]; exact rv.length.symm
  rw [assign_Tuple]
  refine wpAny_bind (wpAny_standAt ?_)
  unfold unpack
  rw [hlen, hstar]
  refine wpAny_bind (wpAny_holding ?_)
  have hlt : a ≠ s.heap.objs.size := by obtain ⟨o, ho, _⟩ := ht; exact Nat.ne_of_lt (Heap.lt_size ho)
  have hll : a < s.heap.objs.size := by obtain ⟨o, ho, _⟩ := ht; exact Heap.lt_size ho
  unfold unpackItems
  refine wpAny_bind ?_
  unfold notIterableAtAll
  refine wpAny_bind (wpAny_specialOf ht.typeIs slot_list_iter.lookup ?_)
  refine wpAny_pure ?_
  simp only [Bool.false_eq_true, if_false]
  refine wpAny_bind (wpAny_holding (wpAny_pyIter_list ht ?_))
  refine wpAny_bind (wpAny_holding (PySem.W.kun_draw hlt n 0 _ _ ⟨_, Heap.get?_push_size _ rfl, rfl, rfl⟩ (ht.push _) (by omega) fun h₁ hit₁ hs₁ => ?_))
  have hl₁ : h₁.IsList a its.toArray := (ht.push _).extBut hs₁.extBut hlt
  rw [Nat.zero_add] at hit₁
  have hit₁' := hit₁
  obtain ⟨oi, hoi, _⟩ := hit₁'
  have hl₁' := hl₁
  obtain ⟨ol, hol, _⟩ := hl₁'
  rw [List.drop_zero]
  have hfl : (its.toArray.toList.take n).length = n := by rw [List.length_take, Array.length_toList]; omega
  rw [if_neg (show ¬ ((its.toArray.toList.take n).length < n) by rw [hfl]; omega)]
  refine wpAny_bind (wpAny_holding (PySem.W.kun_collect (s := { s with heap := h₁ }) (T := "list_iterator") (.inr (.inr (.inl rfl))) (Walks.list (A := X.A.in1) hh s.heap.objs.size a hlt its.toArray) (fun j u st => st.1.typeIs) (k := n) (by omega) ⟨hit₁, hl₁⟩ (Heap.lt_size hoi) (Heap.lt_size hol) (fun h₂ tk hk => ?_) (by rw [sizeLine_eq]; omega)))
  have hrl : (its.toArray.toList.drop n).length = its.toArray.size - n := by rw [List.length_drop, Array.length_toList]
  show wpAny _ _ (if (its.toArray.toList.drop n).length < n + 1 - 1 - n then _ else _) _ _ _
  rw [if_neg (by omega)]
  show wpAny _ _ (newList ((its.toArray.toList.drop n).take ((its.toArray.toList.drop n).length - (n + 1 - 1 - n))) >>= fun d => pure (its.toArray.toList.take n ++ [d] ++ (its.toArray.toList.drop n).drop ((its.toArray.toList.drop n).length - (n + 1 - 1 - n)))) _ _ _
  rw [show n + 1 - 1 - n = 0 from by omega, Nat.sub_zero, List.take_length, List.drop_length]
  simp only [List.append_nil]
  have hx : Heap.ExtBut s.heap.objs.size s.heap h₂ := fun b o hb e => hk b o hb (hs₁.extBut b o hb (Heap.get?_push_of_some _ e))
  have I1 : Inv X pins σ H { s with heap := h₂, toks := tk } := I.kept fun b o e => hx b o (Nat.ne_of_lt (Heap.lt_size e)) e
  have rv1 : Vals (xs.take n) (its.take n) := rv.take n
  have rv2 : Vals (xs.drop n) (its.drop n) := rv.drop n
  have hz2 : (xs.drop n).length ≤ sizeLine := by rw [List.length_drop]; omega
  refine wpAny_bind (wpAny_newObj_type ?_ ?_)
  · refine wpAny_pure ?_
    rw [he]
    have hf : H h₂.objs.size = none := I1.hok.fresh (Nat.le_refl _)
    have I2 : Inv X pins σ (upd H h₂.objs.size (.lst (xs.drop n))) { s with heap := h₂.push { cls := .type "list", data := .seq (its.toArray.toList.drop n).toArray }, toks := tk } := I1.laid (t' := tk) (fun b u e => Heap.get?_push_of_some _ e) (Nat.le_refl _) ⟨hz2, its.drop n, 0, rv2, Heap.get?_push_size _ rfl⟩
    refine h.run pins _ σ _ _ _ Q I2 ?_ (hw _ hf)
    show Vals (xs.take n ++ [V.ref h₂.objs.size]) (its.take n ++ [Value.ref h₂.objs.size])
    exact rv1.append (.cons rfl .nil)
  · show (its.drop n).toArray.size ≤ sizeLine
    rw [List.size_toArray, ← rv2.length]; exact hz2
@[simp] def star3S (i1 i2 i3 j : Nat) (m : M D) : S := fun ρ => Out.of ((m ρ).bd fun d ρ1 => match d with
  | .lst (d0 :: d1 :: d2 :: ds) => if ds.length < 16000 then .ok (.nx ((((ρ1.set i1 (.val d0)).set i2 (.val d1)).set i3 (.val d2)).set j (.ownL (ds.map .val)))) ρ1 else .stuck
  | _ => .stuck)
theorem pst_star3 {X : Cx} {Wx : WX} {J : List Nat} {i1 i2 i3 j : Nat} {x1 x2 x3 y : Str} {e : Expr} {m : M D} {p1 p2 p3 py ps pt pos : Pos} {kt} (hc : X.calm = true) (hN : X.N.Nodup) (he : PD X Wx e m) (hJ1 : J.contains i1 = false := by rfl) (hJ2 : J.contains i2 = false := by rfl) (hJ3 : J.contains i3 = false := by rfl) (hJ : J.contains j = false := by rfl)
    (hi1 : X.N[i1]? = some x1 := by rfl) (hi2 : X.N[i2]? = some x2 := by rfl) (hi3 : X.N[i3]? = some x3 := by rfl) (hj : X.N[j]? = some y := by rfl)
    (hx1 : Loc X.env.scope x1 := by first | exact .inl rfl | exact .inr rfl) (hx2 : Loc X.env.scope x2 := by first | exact .inl rfl | exact .inr rfl) (hx3 : Loc X.env.scope x3 := by first | exact .inl rfl | exact .inr rfl) (hy : Loc X.env.scope y := by first | exact .inl rfl | exact .inr rfl)
    (hf1 : X.fn x1 = true ∨ X.env.scope.names.lookup x1 = some .local := by first | exact .inl rfl | exact .inr rfl) (hf2 : X.fn x2 = true ∨ X.env.scope.names.lookup x2 = some .local := by first | exact .inl rfl | exact .inr rfl) (hf3 : X.fn x3 = true ∨ X.env.scope.names.lookup x3 = some .local := by first | exact .inl rfl | exact .inr rfl) (hfy : X.fn y = true ∨ X.env.scope.names.lookup y = some .local := by first | exact .inl rfl | exact .inr rfl)
    (hs : swapsWithSole [.Tuple [.Name x1 p1, .Name x2 p2, .Name x3 p3, .Starred (.Name y py) ps] kt pt] e pos.line X.env = pure false := by rfl)
    (hw : swappedStores [.Tuple [.Name x1 p1, .Name x2 p2, .Name x3 p3, .Starred (.Name y py) ps] kt pt] e X.env = pure none := by rfl)
    (h1 : (assignEach [.Tuple [.Name x1 p1, .Name x2 p2, .Name x3 p3, .Starred (.Name y py) ps] kt pt] X.env).map (·.2) = [assign (.Tuple [.Name x1 p1, .Name x2 p2, .Name x3 p3, .Starred (.Name y py) ps] kt pt) X.env] := by rfl)
    (h2 : (assignEach [.Name x1 p1, .Name x2 p2, .Name x3 p3, .Name y py] X.env).map (·.2) = assign (.Name x1 p1) X.env :: (assignEach [.Name x2 p2, .Name x3 p3, .Name y py] X.env).map (·.2) := by rfl)
    (h3 : (assignEach [.Name x2 p2, .Name x3 p3, .Name y py] X.env).map (·.2) = assign (.Name x2 p2) X.env :: (assignEach [.Name x3 p3, .Name y py] X.env).map (·.2) := by rfl)
    (h4 : (assignEach [.Name x3 p3, .Name y py] X.env).map (·.2) = assign (.Name x3 p3) X.env :: (assignEach [.Name y py] X.env).map (·.2) := by rfl)
    (h5 : (assignEach [.Name y py] X.env).map (·.2) = assign (.Name y py) X.env :: (assignEach [] X.env).map (·.2) := by rfl)
    (h6 : (assignEach [.Name x1 p1, .Name x2 p2, .Name x3 p3, .Starred (.Name y py) ps] X.env).map (·.2) = (assignEach [.Name x1 p1, .Name x2 p2, .Name x3 p3, .Name y py] X.env).map (·.2) := by rfl)
    (hn : (assignEach [.Name x1 p1, .Name x2 p2, .Name x3 p3, .Starred (.Name y py) ps] X.env).length = 3 + 1 := by rfl) (hst : (assignEach [.Name x1 p1, .Name x2 p2, .Name x3 p3, .Starred (.Name y py) ps] X.env).findIdx? (·.1) = some 3 := by rfl) :
    PSt X Wx J (.Assign [.Tuple [.Name x1 p1, .Name x2 p2, .Name x3 p3, .Starred (.Name y py) ps] kt pt] e pos) (star3S i1 i2 i3 j m) := by
  refine PS_imp (ps_asg he (pg_starL (n := 3) hc (pgs_cons (pg_name hN hi1 hx1 hf1) (pgs_cons (pg_name hN hi2 hx2 hf2) (pgs_cons (pg_name hN hi3 hx3 hf3) (pgs_cons (pg_name hN hj hy hfy) L2.pgs_nil h5) h4) h3) h2) h6 hn hst) hs hw h1) fun E σ H h => ?_
  obtain ⟨ρ, L, W, rl, p⟩ := h
  refine bd_D (T := fun r => PostS X.K Wx J σ L W H E (Out.of r)) rl p (fun v d ρ1 W1 H1 st1 rl1 q1 p => ?_) id (fun e ρ' h c dd W' H' st r er => h c dd σ W' H' .refl st r er)
  cases d with
  | lst dd =>
    match dd with
    | [] => exact p.elim
    | [_] => exact p.elim
    | [_, _] => exact p.elim
    | d0 :: d1 :: d2 :: ds =>
      dsimp only at p
      split at p
      · rename_i hl
        cases q1 with
        | lst ht r1 =>
        cases r1 with
        | @cons u0 _ us0 _ q0 r1 =>
        cases r1 with
        | @cons u1 _ us1 _ q1 r2 =>
        cases r2 with
        | @cons u2 _ us _ q2 r' =>
          refine ⟨_, u0 :: u1 :: u2 :: us, rfl, ex_l hide_ex (.inl (.inl ht)), by simp, by simp only [List.length_cons]; rw [r'.length]; omega, fun D hD => ⟨u0, _, rfl, u1, _, rfl, u2, [.ref D], rfl, .ref D, [], rfl, rfl, ?_⟩⟩
          obtain ⟨W2, st2, r2⟩ := (rl1.push q0).store i1 (fun z => nomatch z)
          obtain ⟨W3, st3, r3⟩ := (r2.push (q1.mono st2.ex)).store i2 (fun z => nomatch z)
          obtain ⟨W4, st4, r4⟩ := (r3.push (q2.mono (st2.trans st3).ex)).store i3 (fun z => nomatch z)
          have post : Post X.K Wx (((σ.set i1 (some u0)).set i2 (some u1)).set i3 (some u2)) L W4 H1 (fun v H' => E.nx ((((σ.set i1 (some u0)).set i2 (some u1)).set i3 (some u2)).set j (some v)) H') (.ok (.ownL (ds.map .val)) (((ρ1.set i1 (.val d0)).set i2 (.val d1)).set i3 (.val d2))) := fun v W' H' st r => by
            obtain ⟨W5, st5, r5⟩ := r.store j (fun z => nomatch z)
            exact p _ W5 H' (ag_set (ag_set (ag_set (ag_set .refl hJ1) hJ2) hJ3) hJ) (((((st1.trans st2).trans st3).trans st4).trans st).trans st5) r5
          exact post.newL r4 (Ex.new hD) hD upd_same ((r'.mono ((st2.trans st3).trans st4).ex).mono (hide_mono (Ex.new hD) fun a h => by
            simp only [List.cons_append, List.mem_cons] at h
            rcases h with h | h
            · subst h; exact .inr hD
            · exact .inl h))
      · exact p.elim
  | _ => exact p.elim
end P
namespace P
open PySem PySem.Spec PyProof.Rows L2
def intTD : List D → Option D
  | [.str s] => if s.length ≤ 640 then (PySem.intText? s).map .int else none
  | _ => none
theorem cd_intT {X : Cx} : CallD X (.type "int") intTD := ⟨_, call_int_str, fun S H xs ds d Q al r e k => by
  unfold intTD at e
  split at e
  · rename_i s
    split at e
    · rename_i hl
      cases hn : PySem.intText? s with
      | none => rw [hn] at e; cases e
      | some n =>
        rw [hn] at e
        cases e
        obtain ⟨x, rfl, q⟩ := r.one
        rw [q.str_inv]
        exact ⟨s, n, rfl, hn, hl, k _ H (Ex.refl H) (.int _)⟩
    · cases e
  · cases e⟩
end P
namespace Lw
open PySem PySem.Spec PyProof.Rows L2 P
def m_p_is_integer : S := (seqS (ifS (orB (notB (tst (isiM (isiT "int") (var 0)))) (tst (isiM (isiT "bool") (var 0)))) (retS (vl (cst (.bl false)))) nop) (retS (vl (andV (orV (bop isD (var 1) (cst .non)) (bop leD (var 1) (var 0))) (orV (bop isD (var 2) (cst .non)) (bop leD (var 0) (var 2)))))))
def fr_p_is_integer : List D → FR := runP 3 3 m_p_is_integer
def lm_p_is_row_1 : M D := (fzM (callM fr_p_is_integer 3 0 (fun ds _ => ds) (consA (var 3) (consA (cst (.int 0)) (consA (bop subD (var 2) (cst (.int 1))) nilA))) nilA))
def m_p_is_row : S := (retS (vl (andV (isiM (isiT "tuple") (var 0)) (andV (bop eqD (callB lenD (consA (var 0) nilA)) (var 1)) (callB allD (consA (fzM (lcM [3] (iterM itA (var 0)) (bName 3) yesM lm_p_is_row_1)) nilA))))))
def fr_p_is_row : List D → FR := runP 4 3 m_p_is_row
def lm_p_are_rows_1 : M D := (fzM (callM fr_p_is_row 3 0 (fun ds _ => ds) (consA (var 3) (consA (var 2) (consA (var 1) nilA))) nilA))
def m_p_are_rows : S := (seqS (ifS (orB (notB (tst (isiM (isiT "tuple") (var 0)))) (orB (notB (tst (chain leD leD (cst (.int 1)) (callB lenD (consA (var 0) nilA)) (cst (.int 30))))) (notB (tst (isiM (isiT "tuple") (bop ixD (var 0) (cst (.int 0)))))))) (retS (vl (cst (.bl false)))) nop) (seqS (setS 2 (vl (callB lenD (consA (bop ixD (var 0) (cst (.int 0))) nilA)))) (retS (vl (andV (chain leD leD (cst (.int 2)) (var 2) (cst (.int 36))) (callB allD (consA (fzM (lcM [3] (iterM itA (var 0)) (bName 3) yesM lm_p_are_rows_1)) nilA)))))))
def fr_p_are_rows : List D → FR := runP 4 2 m_p_are_rows
def m_p_require_modulus : S := (ifS (notB (tst (fzM (callM fr_p_is_integer 3 0 (fun ds _ => ds) (consA (var 0) (consA (cst (.int 2)) (consA (cst (.int 200)) nilA))) nilA)))) (raiseS "InvalidModulus") nop)
def fr_p_require_modulus : List D → FR := runP 1 1 m_p_require_modulus
def m_p_require_remainder : S := (ifS (notB (tst (fzM (callM fr_p_is_integer 3 0 (fun ds _ => ds) (consA (var 0) (consA (cst (.int 0)) (consA (bop subD (var 1) (cst (.int 1))) nilA))) nilA)))) (raiseS "InvalidRemainder") nop)
def fr_p_require_remainder : List D → FR := runP 2 2 m_p_require_remainder
def m_p_Rule___init__ : S := (seqS (dropS (callM fr_p_require_modulus 1 0 (fun ds _ => ds) (consA (var 1) nilA) nilA)) (seqS (ifS (notB (tst (fzM (callM fr_p_are_rows 2 0 (fun ds _ => ds) (consA (var 2) (consA (var 1) nilA)) nilA)))) (raiseS "InvalidRows") nop) (seqS (dropS (callM fr_p_require_remainder 2 0 (fun ds _ => ds) (consA (var 3) (consA (var 1) nilA)) nilA)) (seqS (setFldS 0 "Rule" "divisor" (vl (var 1))) (seqS (setFldS 0 "Rule" "lines" (vl (var 2))) (setFldS 0 "Rule" "wanted" (vl (var 3))))))))
def fm_p_Rule___init__ : List Slot → FM := runM 4 [true, false, false, false] m_p_Rule___init__
def m_p_Rule_modulus : S := (retS (vl (fldM "Rule" "divisor" (var 0))))
def fr_p_Rule_modulus : List D → FR := runP 1 1 m_p_Rule_modulus
def m_p_Rule_rows : S := (retS (vl (fldM "Rule" "lines" (var 0))))
def fr_p_Rule_rows : List D → FR := runP 1 1 m_p_Rule_rows
def m_p_Rule_remainder : S := (retS (vl (fldM "Rule" "wanted" (var 0))))
def fr_p_Rule_remainder : List D → FR := runP 1 1 m_p_Rule_remainder
def m_p_Rule_base : S := (retS (vl (callB lenD (consA (bop ixD (fldM "Rule" "lines" (var 0)) (cst (.int 0))) nilA))))
def fr_p_Rule_base : List D → FR := runP 1 1 m_p_Rule_base
def m_p_Rule___len__ : S := (retS (vl (callB lenD (consA (fldM "Rule" "lines" (var 0)) nilA))))
def fr_p_Rule___len__ : List D → FR := runP 1 1 m_p_Rule___len__
def m_p_Rule___eq__ : S := (seqS (ifS (notB (tst (isiM (isiC "Rule") (var 1)))) (retS (vl (cst (.bl false)))) nop) (retS (vl (andV (bop eqD (fldM "Rule" "divisor" (var 0)) (fldM "Rule" "divisor" (var 1))) (andV (bop eqD (fldM "Rule" "lines" (var 0)) (fldM "Rule" "lines" (var 1))) (bop eqD (fldM "Rule" "wanted" (var 0)) (fldM "Rule" "wanted" (var 1))))))))
def fr_p_Rule___eq__ : List D → FR := runP 2 2 m_p_Rule___eq__
def m_p_require_base : S := (ifS (notB (tst (fzM (callM fr_p_is_integer 3 0 (fun ds _ => ds) (consA (var 0) (consA (cst (.int 2)) (consA (cst (.int 36)) nilA))) nilA)))) (raiseS "InvalidBase") nop)
def fr_p_require_base : List D → FR := runP 1 1 m_p_require_base
def lm_p_require_weights_1 : M D := (fzM (callM fr_p_is_integer 3 0 (fun ds _ => ds) (consA (var 1) (consA (cst .non) (consA (cst .non) nilA))) nilA))
def m_p_require_weights : S := (seqS (ifS (orB (notB (tst (isiM (isiT "tuple") (var 0)))) (notB (tst (chain leD leD (cst (.int 1)) (callB lenD (consA (var 0) nilA)) (cst (.int 30)))))) (raiseS "InvalidWeights") nop) (ifS (notB (tst (callB allD (consA (fzM (lcM [1] (iterM itA (var 0)) (bName 1) yesM lm_p_require_weights_1)) nilA)))) (raiseS "InvalidWeights") nop))
def fr_p_require_weights : List D → FR := runP 2 1 m_p_require_weights
def lm_p_weighted_rows_1 : M D := (bop modD (bop mulD (var 3) (var 4)) (var 1))
def lm_p_weighted_rows_2 : M D := (callB tupleD (consA (fzM (lcM [4] (iterA rng1 (consA (var 0) nilA)) (bName 4) yesM lm_p_weighted_rows_1)) nilA))
def m_p_weighted_rows : S := (retS (vl (callB tupleD (consA (fzM (lcM [3] (iterM itA (var 2)) (bName 3) yesM lm_p_weighted_rows_2)) nilA))))
def fr_p_weighted_rows : List D → FR := runP 5 3 m_p_weighted_rows
def m_p_Rule_weighted : S := (seqS (dropS (callM fr_p_require_base 1 0 (fun ds _ => ds) (consA (var 1) nilA) nilA)) (seqS (dropS (callM fr_p_require_modulus 1 0 (fun ds _ => ds) (consA (var 2) nilA) nilA)) (seqS (dropS (callM fr_p_require_weights 1 0 (fun ds _ => ds) (consA (var 3) nilA) nilA)) (seqS (dropS (callM fr_p_require_remainder 2 0 (fun ds _ => ds) (consA (var 4) (consA (var 2) nilA)) nilA)) (retS (makeV 0 "Rule" fm_p_Rule___init__ 3 (fun ds es => pick [0, 1, 2] (ds ++ es)) (consA (var 2) (consA (fzM (callM fr_p_weighted_rows 3 0 (fun ds _ => ds) (consA (var 1) (consA (var 2) (consA (var 3) nilA))) nilA)) (consA (var 4) nilA)))))))))
def fr_p_Rule_weighted : List D → FR := runP 5 5 m_p_Rule_weighted
def lm_p_format_weights_1 : M D := (bop modD (var 5) (var 1))
def lm_p_format_weights_2 : M D := (callB strID (consA (var 6) nilA))
def m_p_format_weights : S := (seqS (dropS (callM fr_p_require_base 1 0 (fun ds _ => ds) (consA (var 0) nilA) nilA)) (seqS (dropS (callM fr_p_require_modulus 1 0 (fun ds _ => ds) (consA (var 1) nilA) nilA)) (seqS (dropS (callM fr_p_require_weights 1 0 (fun ds _ => ds) (consA (var 2) nilA) nilA)) (seqS (dropS (callM fr_p_require_remainder 2 0 (fun ds _ => ds) (consA (var 3) (consA (var 1) nilA)) nilA)) (seqS (setS 4 (vl (bop addD (fzM (lstM (consA (var 0) (consA (var 1) (consA (var 3) nilA))))) (fzM (lcM [5] (iterM itA (var 2)) (bName 5) yesM lm_p_format_weights_1))))) (retS (vl (strM1 joinD (cst (.str " ")) (fzM (lcM [6] (iterM itA (var 4)) (bName 6) yesM lm_p_format_weights_2))))))))))
def fr_p_format_weights : List D → FR := runP 7 4 m_p_format_weights
end Lw
namespace Lw
open PySem PySem.Spec PyProof.Rows L2 P
def fb_law_sums_1 : S := (fgt [8, 9] (seqS (setS 9 (vl (bop modD (bop addD (var 7) (bop ixD (var 3) (var 8))) (bop ixD (var 0) (cst (.int 0)))))) (setKS 5 (var 9) (bop addD (getKO 5 (var 9) (cst (.int 0))) (bop ixKD (var 2) (var 7))))))
def fb_law_sums_2 : S := (fgt [7, 8, 9] (forS (iterM itA (var 6)) (bName 8) fb_law_sums_1))
def fb_law_sums_3 : S := (fgt [3, 4, 6, 7, 8, 9] (seqS (parS2 5 6 (consB dnewM (consB (vl (fzM (lstM (consA (var 4) nilA)))) nilB))) (seqS (ifS (tst (bop isD (var 4) (cst .non))) (setS 6 (vl (fzM (lrg1 (callB lenD (consA (var 3) nilA)))))) nop) (seqS (frzK 2 (forS (iterM itK (var 2)) (bName 7) fb_law_sums_2)) (setS 2 (mvM 5))))))
def m_law_sums : S := (seqS (setS 2 (disp1 0 1)) (seqS (forS (iterA zip4 (consA (bop ixD (var 0) (cst (.int 1))) (consA (var 1) nilA))) (bTup [(bName 3), (bName 4)]) fb_law_sums_3) (retS (mvM 2))))
def fr_law_sums : List D → FR := runP 10 2 m_law_sums
def m_law_sip : S := (seqS (ifS (tst (bop gtD (ixO 0 (cst (.int 0))) (cst (.int 0)))) (seqS (setS 2 (vl (bop modD (ixO 0 (cst (.int 0))) (var 1)))) (seqS (setIxS 0 (cst (.int 0)) (bop fdivD (ixO 0 (cst (.int 0))) (var 1))) (retS (vl (var 2))))) nop) (seqS (setIxS 0 (cst (.int 2)) (bop addD (ixO 0 (cst (.int 2))) (cst (.int 1)))) (seqS (setS 3 (vl (bop modD (bop powD (bop addD (ixO 0 (cst (.int 1))) (bop mulD (cst (.int 573259391)) (ixO 0 (cst (.int 2))))) (cst (.int 3))) (bop addD (bop powD (cst (.int 10)) (cst (.int 40))) (cst (.int 121)))))) (seqS (setS 3 (vl (bop modD (bop powD (bop addD (var 3) (bop mulD (cst (.int 433494437)) (ixO 0 (cst (.int 2))))) (cst (.int 2))) (bop addD (bop powD (cst (.int 10)) (cst (.int 39))) (cst (.int 3)))))) (retS (vl (bop modD (bop fdivD (var 3) (bop powD (cst (.int 10)) (cst (.int 5)))) (var 1))))))))
def fm_law_sip : List Slot → FM := runM 4 [true, false] m_law_sip
def lm_law_rows_1 : M D := (bop modD (bop mulD (var 7) (var 10)) (var 3))
def lm_law_rows_2 : M D := (fzM (callMM fm_law_sip [some 0, none] (ownA 0 (consA (var 3) nilA))))
def lm_law_rows_3 : M D := (bop modD (popAtM 9 (fzM (callMM fm_law_sip [some 0, none] (ownA 0 (consA (lenO 9) nilA))))) (var 3))
def fb_law_rows_1 : S := (fgt [6, 7, 8] (seqS (setS 7 (vl (bop ixD (fzM (lstM (consA (fzM (callMM fm_law_sip [some 0, none] (ownA 0 (consA (var 3) nilA)))) (consA (bop addD (var 6) (cst (.int 1))) (consA (cst (.int 0)) (consA (cst (.int 0)) (consA (cst (.int 1)) nilA))))))) (var 4)))) (seqS (setS 8 (lcM [10] (iterA rng1 (consA (var 2) nilA)) (bName 10) yesM lm_law_rows_1)) (frzS 8 (seqS (ifS (orB (tst (bop eqD (var 4) (cst (.int 2)))) (andB (tst (bop eqD (var 4) (cst (.int 4)))) (tst (bop eqD (fzM (callMM fm_law_sip [some 0, none] (ownA 0 (consA (cst (.int 4)) nilA)))) (cst (.int 0)))))) (seqS (setS 8 (lcM [10] (iterA rng1 (consA (var 2) nilA)) (bName 10) yesM lm_law_rows_2)) (frzS 8 nop)) nop) (seqS (ifS (tst (bop eqD (var 4) (cst (.int 3)))) (seqS (setS 9 (lrg1 (callB max2D (consA (var 3) (consA (var 2) nilA))))) (seqS (setS 8 (lcM [10] (iterA rng1 (consA (var 2) nilA)) (bName 10) yesM lm_law_rows_3)) (frzS 8 nop))) nop) (dropS (vl (appM 5 (callB tupleD (consA (var 8) nilA)))))))))))
end Lw
namespace Lw
open PySem PySem.Spec PyProof.Rows L2 P
end Lw
namespace Lw
open PySem PySem.Spec PyProof.Rows L2 P
def lm_p_number_in_T_1 : M D := (bop inT (var 2) (cst (.str "0123456789")))
def m_p_number_in_T : S := (seqS (ifS (orB (notB (tst (chain leD leD (cst (.int 1)) (callB lenD (consA (var 0) nilA)) (var 1)))) (notB (tst (callB allD (consA (fzM (lcM [2] (iterM itS (var 0)) (bName 2) yesM lm_p_number_in_T_1)) nilA))))) (retS (vl (cst .non))) nop) (retS (vl (cond (andB (tst (bop eqD (bop ixD (var 0) (cst (.int 0))) (cst (.str "0")))) (tst (bop neD (var 0) (cst (.str "0"))))) (cst .non) (callB intTD (consA (var 0) nilA))))))
def fr_p_number_in_T : List D → FR := runP 3 2 m_p_number_in_T
def fb_p_read_weights_T_1 : S := (fgt [2, 3, 4, 5, 6] (seqS (setS 4 (vl (fzM (callM fr_p_number_in_T 2 0 (fun ds _ => ds) (consA (var 3) (consA (cst (.int 3)) nilA)) nilA)))) (seqS (ifS (orB (tst (bop isD (var 4) (cst .non))) (tst (bop eqD (var 2) (bop addD (cst (.int 3)) (cst (.int 30)))))) (frzS 1 (retS (vl (tupM (consA (var 1) (consA (var 2) nilA)))))) nop) (seqS (unpS (bTup [(bName 5), (bName 6)]) (cond (tst (bop ltD (var 2) (cst (.int 2)))) (tupM (consA (cst (.int 2)) (consA (bop ixD (fzM (lstM (consA (cst (.int 36)) (consA (cst (.int 200)) nilA)))) (var 2)) nilA))) (tupM (consA (cst (.int 0)) (consA (bop subD (ixO 1 (cst (.int 1))) (cst (.int 1))) nilA))))) (seqS (ifS (notB (tst (fzM (callM fr_p_is_integer 3 0 (fun ds _ => ds) (consA (var 4) (consA (var 5) (consA (var 6) nilA))) nilA)))) (frzS 1 (retS (vl (tupM (consA (var 1) (consA (var 2) nilA)))))) nop) (dropS (vl (appM 1 (var 4)))))))))
def m_p_read_weights_T : S := (seqS (setS 1 (lstM nilA)) (seqS (forS (iterA enum1 (consA (fzM (strN1 splitD (var 0) (cst (.str " ")))) nilA)) (bTup [(bName 2), (bName 3)]) fb_p_read_weights_T_1) (frzS 1 (retS (vl (tupM (consA (var 1) (consA (cond (tst (bop gtD (callB lenD (consA (var 1) nilA)) (cst (.int 3)))) (cst .non) (callB lenD (consA (var 1) nilA))) nilA))))))))
def fr_p_read_weights_T : List D → FR := runP 7 1 m_p_read_weights_T
def m_p_rule_of_numbers : S := (seqS (star3S 1 2 3 4 (var 0)) (frzS 4 (retS (cmM "Rule" fr_p_Rule_weighted 4 0 (fun ds es => pick [0, 1, 2, 3, 4] (ds ++ es ++ [.int 0])) (consA (var 1) (consA (var 2) (consA (callB tupleD (consA (var 4) nilA)) (consA (var 3) nilA)))) nilA))))
def fr_p_rule_of_numbers : List D → FR := runP 5 1 m_p_rule_of_numbers
def m_p_parse_weights : S := (seqS (ifS (notB (tst (isiM (isiT "str") (var 0)))) stuckS nop) (seqS (unpS (bTup [(bName 1), (bName 2)]) (fzM (callM fr_p_read_weights_T 1 0 (fun ds _ => ds) (consA (var 0) nilA) nilA))) (seqS (ifS (tst (bop isNotD (var 2) (cst .non))) stuckS nop) (retS (callM fr_p_rule_of_numbers 1 0 (fun ds _ => ds) (consA (var 1) nilA) nilA)))))
def fr_p_parse_weights : List D → FR := runP 3 1 m_p_parse_weights
def top (i : Nat) : Stmt := PySem.Challenge.pw_checkdigits_k55_weights_written.main.body.getD i (.Pass ⟨0, 0, 0, 0⟩)
abbrev t_p_is_integer : Stmt := top 13
abbrev t_p_is_row : Stmt := top 14
abbrev t_p_are_rows : Stmt := top 15
abbrev t_p_require_base : Stmt := top 16
abbrev t_p_require_modulus : Stmt := top 17
abbrev t_p_require_weights : Stmt := top 18
abbrev t_p_require_remainder : Stmt := top 19
abbrev t_p_weighted_rows : Stmt := top 20
abbrev t_p_Rule___init__ : Stmt := clsStmt (top 21) 1
abbrev t_p_Rule_weighted : Stmt := clsStmt (top 21) 2
abbrev t_p_Rule_modulus : Stmt := clsStmt (top 21) 3
abbrev t_p_Rule_rows : Stmt := clsStmt (top 21) 4
abbrev t_p_Rule_remainder : Stmt := clsStmt (top 21) 5
abbrev t_p_Rule_base : Stmt := clsStmt (top 21) 6
abbrev t_p_Rule___len__ : Stmt := clsStmt (top 21) 7
abbrev t_p_Rule___eq__ : Stmt := clsStmt (top 21) 11
abbrev t_p_number_in_T : Stmt := top 29
abbrev t_p_read_weights_T : Stmt := top 30
abbrev t_p_rule_of_numbers : Stmt := top 31
abbrev t_p_format_weights : Stmt := top 32
abbrev t_p_parse_weights : Stmt := top 33
abbrev t_law_purse : Stmt := top 35
abbrev t_law_coin : Stmt := top 36
abbrev t_law_numbers : Stmt := top 37
abbrev t_law_page : Stmt := top 38
abbrev t_law_lines : Stmt := top 39
abbrev t_law_right : Stmt := top 40
abbrev t_p_law : Stmt := top 41
def m_law_purse : S := (seqS (setS 2 (vl (cond (tst (bop ltD (var 1) (callB lenD (consA (var 0) nilA)))) (bop ixD (var 0) (var 1)) (cst (.int 0))))) (retS (lstM (consA (callB max2D (consA (cst (.int 0)) (consA (bop subD (callB absD (consA (var 2) nilA)) (bop powD (cst (.int 10)) (cst (.int 18)))) nilA))) (consA (bop addD (bop addD (bop mulD (bop modD (var 2) (bop addD (bop powD (cst (.int 10)) (cst (.int 36))) (cst (.int 67)))) (cst (.int 13))) (bop mulD (cst (.int 6007)) (var 1))) (cst (.int 5))) (consA (cst (.int 0)) nilA))))))
def fr_law_purse : List D → FR := runP 3 2 m_law_purse
def m_law_coin : S := (seqS (ifS (tst (bop gtD (ixO 0 (cst (.int 0))) (cst (.int 0)))) (seqS (setS 2 (vl (bop modD (ixO 0 (cst (.int 0))) (var 1)))) (seqS (setIxS 0 (cst (.int 0)) (bop fdivD (ixO 0 (cst (.int 0))) (var 1))) (retS (vl (var 2))))) nop) (seqS (setIxS 0 (cst (.int 2)) (bop addD (ixO 0 (cst (.int 2))) (cst (.int 1)))) (seqS (setS 3 (vl (bop modD (bop powD (bop addD (ixO 0 (cst (.int 1))) (bop mulD (cst (.int 472882027)) (ixO 0 (cst (.int 2))))) (cst (.int 3))) (bop addD (bop powD (cst (.int 10)) (cst (.int 41))) (cst (.int 109)))))) (seqS (setS 3 (vl (bop modD (bop powD (bop addD (var 3) (bop mulD (cst (.int 373587883)) (ixO 0 (cst (.int 2))))) (cst (.int 3))) (bop addD (bop powD (cst (.int 10)) (cst (.int 40))) (cst (.int 121)))))) (retS (vl (bop modD (bop fdivD (var 3) (cst (.int 99989))) (var 1))))))))
def fm_law_coin : List Slot → FM := runM 4 [true, false] m_law_coin
def fb_law_numbers_1 : S := (fgt [4] (seqS (setS 5 (lstM (consA (fzM (callMM fm_law_coin [some 0, none] (ownA 0 (consA (var 2) nilA)))) (consA (cst (.int 0)) (consA (cst (.int 1)) (consA (bop subD (var 2) (cst (.int 1))) (consA (var 2) (consA (bop subD (cst (.int 0)) (fzM (callMM fm_law_coin [some 0, none] (ownA 0 (consA (cst (.int 999)) nilA))))) nilA)))))))) (seqS (dropS (vl (appM 5 (fzM (callMM fm_law_coin [some 0, none] (ownA 0 (consA (bop powD (cst (.int 10)) (cst (.int 59))) nilA))))))) (dropS (vl (appM 3 (ixO 5 (fzM (callMM fm_law_coin [some 0, none] (ownA 0 (consA (lenO 5) nilA)))))))))))
def m_law_numbers : S := (seqS (setS 1 (vl (bop ixD (fzM (lstM (consA (cst (.int 2)) (consA (cst (.int 10)) (consA (bop addD (cst (.int 2)) (fzM (callMM fm_law_coin [some 0, none] (ownA 0 (consA (cst (.int 35)) nilA))))) (consA (cst (.int 36)) nilA)))))) (fzM (callMM fm_law_coin [some 0, none] (ownA 0 (consA (cst (.int 4)) nilA))))))) (seqS (setS 2 (vl (bop ixD (fzM (lstM (consA (bop addD (cst (.int 2)) (fzM (callMM fm_law_coin [some 0, none] (ownA 0 (consA (cst (.int 14)) nilA))))) (consA (var 1) (consA (bop addD (cst (.int 2)) (fzM (callMM fm_law_coin [some 0, none] (ownA 0 (consA (cst (.int 199)) nilA))))) (consA (cst (.int 200)) nilA)))))) (fzM (callMM fm_law_coin [some 0, none] (ownA 0 (consA (cst (.int 4)) nilA))))))) (seqS (setS 3 (lstM nilA)) (seqS (forS (iterA rng1 (consA (bop ixD (fzM (lstM (consA (bop addD (cst (.int 1)) (fzM (callMM fm_law_coin [some 0, none] (ownA 0 (consA (cst (.int 8)) nilA))))) (consA (bop addD (cst (.int 1)) (fzM (callMM fm_law_coin [some 0, none] (ownA 0 (consA (cst (.int 30)) nilA))))) (consA (cst (.int 30)) nilA))))) (fzM (callMM fm_law_coin [some 0, none] (ownA 0 (consA (cst (.int 3)) nilA))))) nilA)) (bName 4) fb_law_numbers_1) (frzS 3 (retS (vl (tupM (consA (var 1) (consA (var 2) (consA (callB tupleD (consA (var 3) nilA)) (consA (bop ixD (fzM (lstM (consA (cst (.int 0)) (consA (fzM (callMM fm_law_coin [some 0, none] (ownA 0 (consA (var 2) nilA)))) nilA)))) (fzM (callMM fm_law_coin [some 0, none] (ownA 0 (consA (cst (.int 2)) nilA))))) nilA))))))))))))
def fm_law_numbers : List Slot → FM := runM 6 [true] m_law_numbers
def lm_law_page_1 : M D := (bop modD (var 6) (var 2))
def lm_law_page_2 : M D := (callB strID (consA (var 7) nilA))
def m_law_page : S := (seqS (unpS (bTup [(bName 1), (bName 2), (bName 3), (bName 4)]) (var 0)) (seqS (setS 5 (vl (bop addD (fzM (lstM (consA (var 1) (consA (var 2) (consA (var 4) nilA))))) (fzM (lcM [6] (iterM itA (var 3)) (bName 6) yesM lm_law_page_1))))) (retS (vl (strM1 joinD (cst (.str " ")) (fzM (lcM [7] (iterM itA (var 5)) (bName 7) yesM lm_law_page_2)))))))
def fr_law_page : List D → FR := runP 8 1 m_law_page
def lm_law_lines_1 : M D := (bop modD (bop mulD (var 6) (var 7)) (var 2))
def fb_law_lines_1 : S := (fgt [6] (dropS (vl (appM 5 (callB tupleD (consA (fzM (lcM [7] (iterA rng1 (consA (var 1) nilA)) (bName 7) yesM lm_law_lines_1)) nilA))))))
def m_law_lines : S := (seqS (unpS (bTup [(bName 1), (bName 2), (bName 3), (bName 4)]) (var 0)) (seqS (setS 5 (lstM nilA)) (seqS (forS (iterM itA (var 3)) (bName 6) fb_law_lines_1) (frzS 5 (retS (vl (callB tupleD (consA (var 5) nilA))))))))
def fr_law_lines : List D → FR := runP 8 1 m_law_lines
def fb_law_right_1 : S := (fgt [13, 14, 15] (seqS (setS 14 (vl (fzM (lstM (consA (fzM (propM "Rule" fr_p_Rule_modulus (var 13))) (consA (fzM (propM "Rule" fr_p_Rule_rows (var 13))) (consA (fzM (propM "Rule" fr_p_Rule_remainder (var 13))) (consA (fzM (propM "Rule" fr_p_Rule_base (var 13))) (consA (callB (lenI "Rule" fr_p_Rule___len__) (consA (var 13) nilA)) nilA))))))))) (seqS (ifS (tst (bop neD (callB reprD (consA (var 14) nilA)) (callB reprD (consA (fzM (lstM (consA (var 2) (consA (var 6) (consA (var 4) (consA (var 1) (consA (callB lenD (consA (var 3) nilA)) nilA))))))) nilA)))) (retS (vl (cst (.bl false)))) nop) (seqS (setS 15 (vl (fzM (cmM "Rule" fr_p_Rule_weighted 4 0 (fun ds es => pick [0, 1, 2, 3, 4] (ds ++ es ++ [.int 0])) (consA (var 1) (consA (var 2) (consA (var 3) (consA (var 4) nilA)))) nilA)))) (ifS (orB (notB (tst (bop (cmpI "Rule" fr_p_Rule___eq__ false) (var 13) (fzM (makeM "Rule" fm_p_Rule___init__ 3 0 (fun ds es => pick [0, 1, 2] (ds ++ es)) (consA (var 2) (consA (var 6) (consA (var 4) nilA))) nilA))))) (notB (tst (bop (cmpI "Rule" fr_p_Rule___eq__ false) (var 13) (var 15))))) (retS (vl (cst (.bl false)))) nop)))))
def m_law_right : S := (seqS (unpS (bTup [(bName 1), (bName 2), (bName 3), (bName 4)]) (var 0)) (seqS (setS 5 (vl (fzM (callM fr_law_page 1 0 (fun ds _ => ds) (consA (var 0) nilA) nilA)))) (seqS (setS 6 (vl (fzM (callM fr_law_lines 1 0 (fun ds _ => ds) (consA (var 0) nilA) nilA)))) (seqS (setS 7 (vl (callB reprD (consA (var 0) nilA)))) (seqS (setS 8 (lstM (consA (fzM (callM fr_p_format_weights 4 0 (fun ds _ => ds) (consA (var 1) (consA (var 2) (consA (var 3) (consA (var 4) nilA)))) nilA)) nilA))) (seqS (unpS (bTup [(bName 9), (bName 10), (bName 11), (bName 12)]) (var 0)) (seqS (dropS (vl (appM 8 (fzM (callM fr_p_format_weights 0 4 (fun ds es => pick [3, 2, 1, 0] (ds ++ es)) nilA (consA (var 12) (consA (var 11) (consA (var 10) (consA (var 9) nilA))))))))) (seqS (frzS 8 (ifS (orB (tst (bop neD (callB reprD (consA (var 8) nilA)) (callB reprD (consA (fzM (lstM (consA (var 5) (consA (var 5) nilA)))) nilA)))) (tst (bop neD (callB reprD (consA (var 0) nilA)) (var 7)))) (retS (vl (cst (.bl false)))) nop)) (seqS (forS (iterM itA (fzM (lstM (consA (fzM (callM fr_p_parse_weights 1 0 (fun ds _ => ds) (consA (var 5) nilA) nilA)) (consA (fzM (callM fr_p_parse_weights 0 1 (fun ds es => pick [0] (ds ++ es)) nilA (consA (var 5) nilA))) nilA))))) (bName 13) fb_law_right_1) (retS (vl (cst (.bl true)))))))))))))
def fr_law_right : List D → FR := runP 16 1 m_law_right
def fb_p_law_1 : S := (fgt [3] (ifS (notB (tst (fzM (callM fr_law_right 1 0 (fun ds _ => ds) (consA (fzM (callMM fm_law_numbers [some 2] (ownA 2 nilA))) nilA) nilA)))) (retS (vl (cst (.bl false)))) nop))
def fb_p_law_2 : S := (fgt [1, 3] (seqS (setS 2 (callM fr_law_purse 2 0 (fun ds _ => ds) (consA (var 0) (consA (var 1) nilA)) nilA)) (forS (iterA rng1 (consA (cst (.int 4)) nilA)) (bName 3) fb_p_law_1)))
def m_p_law : S := (seqS (forS (iterA rng1 (consA (callB max2D (consA (cst (.int 1)) (consA (callB min2D (consA (cst (.int 6)) (consA (callB lenD (consA (var 0) nilA)) nilA))) nilA))) nilA)) (bName 1) fb_p_law_2) (seqS (ifS (orB (notB (tst (fzM (callM fr_law_right 1 0 (fun ds _ => ds) (consA (tupM (consA (cst (.int 36)) (consA (cst (.int 200)) (consA (bop mulD (tupM (consA (cst (.int 199)) nilA)) (cst (.int 30))) (consA (cst (.int 199)) nilA))))) nilA) nilA)))) (notB (tst (fzM (callM fr_law_right 1 0 (fun ds _ => ds) (consA (tupM (consA (cst (.int 2)) (consA (cst (.int 2)) (consA (tupM (consA (uop negD (cst (.int 1))) nilA)) (consA (cst (.int 1)) nilA))))) nilA) nilA))))) (retS (vl (cst (.bl false)))) nop) (retS (vl (andV (bop eqD (fzM (callM fr_p_format_weights 4 0 (fun ds _ => ds) (consA (cst (.int 10)) (consA (cst (.int 11)) (consA (tupM (consA (cst (.int 1)) (consA (cst (.int 2)) (consA (cst (.int 14)) nilA)))) (consA (cst (.int 0)) nilA)))) nilA)) (cst (.str "10 11 0 1 2 3"))) (bop eqD (callB (lenI "Rule" fr_p_Rule___len__) (consA (fzM (callM fr_p_parse_weights 1 0 (fun ds _ => ds) (consA (cst (.str "2 2 0 0")) nilA) nilA)) nilA)) (cst (.int 1))))))))
def fr_p_law : List D → FR := runP 4 1 m_p_law
abbrev Fun_p_is_integer (K : PySem.W.Frag) (fd : FuncData) : Prop := FunD K "is_integer" "is_integer" (defArgs t_p_is_integer) (defBody t_p_is_integer) (defScope t_p_is_integer) [] [] (He.ga K "is_integer") fd
abbrev Fun_p_is_row (K : PySem.W.Frag) (fd : FuncData) : Prop := FunD K "is_row" "is_row" (defArgs t_p_is_row) (defBody t_p_is_row) (defScope t_p_is_row) [] [] (He.ga K "is_row") fd
abbrev Fun_p_are_rows (K : PySem.W.Frag) (fd : FuncData) : Prop := FunD K "are_rows" "are_rows" (defArgs t_p_are_rows) (defBody t_p_are_rows) (defScope t_p_are_rows) [] [] (He.ga K "are_rows") fd
abbrev Fun_p_require_base (K : PySem.W.Frag) (fd : FuncData) : Prop := FunD K "require_base" "require_base" (defArgs t_p_require_base) (defBody t_p_require_base) (defScope t_p_require_base) [] [] (He.ga K "require_base") fd
abbrev Fun_p_require_modulus (K : PySem.W.Frag) (fd : FuncData) : Prop := FunD K "require_modulus" "require_modulus" (defArgs t_p_require_modulus) (defBody t_p_require_modulus) (defScope t_p_require_modulus) [] [] (He.ga K "require_modulus") fd
abbrev Fun_p_require_weights (K : PySem.W.Frag) (fd : FuncData) : Prop := FunD K "require_weights" "require_weights" (defArgs t_p_require_weights) (defBody t_p_require_weights) (defScope t_p_require_weights) [] [] (He.ga K "require_weights") fd
abbrev Fun_p_require_remainder (K : PySem.W.Frag) (fd : FuncData) : Prop := FunD K "require_remainder" "require_remainder" (defArgs t_p_require_remainder) (defBody t_p_require_remainder) (defScope t_p_require_remainder) [] [] (He.ga K "require_remainder") fd
abbrev Fun_p_weighted_rows (K : PySem.W.Frag) (fd : FuncData) : Prop := FunD K "weighted_rows" "weighted_rows" (defArgs t_p_weighted_rows) (defBody t_p_weighted_rows) (defScope t_p_weighted_rows) [] [] (He.ga K "weighted_rows") fd
abbrev Fun_p_Rule___init__ (K : PySem.W.Frag) (fd : FuncData) : Prop := FunD K "__init__" "Rule.__init__" (defArgs t_p_Rule___init__) (defBody t_p_Rule___init__) (defScope t_p_Rule___init__) [] [] (He.ma K (He.ga K "Rule") "__init__") fd
abbrev Fun_p_Rule_weighted (K : PySem.W.Frag) (fd : FuncData) : Prop := FunD K "weighted" "Rule.weighted" (defArgs t_p_Rule_weighted) (defBody t_p_Rule_weighted) (defScope t_p_Rule_weighted) [.int 0] [] (cg K "Rule" "weighted") fd
abbrev Fun_p_Rule_modulus (K : PySem.W.Frag) (fd : FuncData) : Prop := FunD K "modulus" "Rule.modulus" (defArgs t_p_Rule_modulus) (defBody t_p_Rule_modulus) (defScope t_p_Rule_modulus) [] [] (pg K "Rule" "modulus") fd
abbrev Fun_p_Rule_rows (K : PySem.W.Frag) (fd : FuncData) : Prop := FunD K "rows" "Rule.rows" (defArgs t_p_Rule_rows) (defBody t_p_Rule_rows) (defScope t_p_Rule_rows) [] [] (pg K "Rule" "rows") fd
abbrev Fun_p_Rule_remainder (K : PySem.W.Frag) (fd : FuncData) : Prop := FunD K "remainder" "Rule.remainder" (defArgs t_p_Rule_remainder) (defBody t_p_Rule_remainder) (defScope t_p_Rule_remainder) [] [] (pg K "Rule" "remainder") fd
abbrev Fun_p_Rule_base (K : PySem.W.Frag) (fd : FuncData) : Prop := FunD K "base" "Rule.base" (defArgs t_p_Rule_base) (defBody t_p_Rule_base) (defScope t_p_Rule_base) [] [] (pg K "Rule" "base") fd
abbrev Fun_p_Rule___len__ (K : PySem.W.Frag) (fd : FuncData) : Prop := FunD K "__len__" "Rule.__len__" (defArgs t_p_Rule___len__) (defBody t_p_Rule___len__) (defScope t_p_Rule___len__) [] [] (He.ma K (He.ga K "Rule") "__len__") fd
abbrev Fun_p_Rule___eq__ (K : PySem.W.Frag) (fd : FuncData) : Prop := FunD K "__eq__" "Rule.__eq__" (defArgs t_p_Rule___eq__) (defBody t_p_Rule___eq__) (defScope t_p_Rule___eq__) [] [] (He.ma K (He.ga K "Rule") "__eq__") fd
abbrev Fun_p_number_in_T (K : PySem.W.Frag) (fd : FuncData) : Prop := FunD K "number_in" "number_in" (defArgs t_p_number_in_T) (defBody t_p_number_in_T) (defScope t_p_number_in_T) [] [] (He.ga K "number_in") fd
abbrev Fun_p_read_weights_T (K : PySem.W.Frag) (fd : FuncData) : Prop := FunD K "read_weights" "read_weights" (defArgs t_p_read_weights_T) (defBody t_p_read_weights_T) (defScope t_p_read_weights_T) [] [] (He.ga K "read_weights") fd
abbrev Fun_p_rule_of_numbers (K : PySem.W.Frag) (fd : FuncData) : Prop := FunD K "rule_of_numbers" "rule_of_numbers" (defArgs t_p_rule_of_numbers) (defBody t_p_rule_of_numbers) (defScope t_p_rule_of_numbers) [] [] (He.ga K "rule_of_numbers") fd
abbrev Fun_p_format_weights (K : PySem.W.Frag) (fd : FuncData) : Prop := FunD K "format_weights" "format_weights" (defArgs t_p_format_weights) (defBody t_p_format_weights) (defScope t_p_format_weights) [] [] (He.ga K "format_weights") fd
abbrev Fun_p_parse_weights (K : PySem.W.Frag) (fd : FuncData) : Prop := FunD K "parse_weights" "parse_weights" (defArgs t_p_parse_weights) (defBody t_p_parse_weights) (defScope t_p_parse_weights) [] [] (He.ga K "parse_weights") fd
abbrev Fun_law_purse (K : PySem.W.Frag) (fd : FuncData) : Prop := FunD K "_law_purse" "_law_purse" (defArgs t_law_purse) (defBody t_law_purse) (defScope t_law_purse) [] [] (He.ga K "_law_purse") fd
abbrev Fun_law_coin (K : PySem.W.Frag) (fd : FuncData) : Prop := FunD K "_law_coin" "_law_coin" (defArgs t_law_coin) (defBody t_law_coin) (defScope t_law_coin) [] [] (He.ga K "_law_coin") fd
abbrev Fun_law_numbers (K : PySem.W.Frag) (fd : FuncData) : Prop := FunD K "_law_numbers" "_law_numbers" (defArgs t_law_numbers) (defBody t_law_numbers) (defScope t_law_numbers) [] [] (He.ga K "_law_numbers") fd
abbrev Fun_law_page (K : PySem.W.Frag) (fd : FuncData) : Prop := FunD K "_law_page" "_law_page" (defArgs t_law_page) (defBody t_law_page) (defScope t_law_page) [] [] (He.ga K "_law_page") fd
abbrev Fun_law_lines (K : PySem.W.Frag) (fd : FuncData) : Prop := FunD K "_law_lines" "_law_lines" (defArgs t_law_lines) (defBody t_law_lines) (defScope t_law_lines) [] [] (He.ga K "_law_lines") fd
abbrev Fun_law_right (K : PySem.W.Frag) (fd : FuncData) : Prop := FunD K "_law_right" "_law_right" (defArgs t_law_right) (defBody t_law_right) (defScope t_law_right) [] [] (He.ga K "_law_right") fd
abbrev Fun_p_law (K : PySem.W.Frag) (fd : FuncData) : Prop := FunD K "law" "law" (defArgs t_p_law) (defBody t_p_law) (defScope t_p_law) [] [] (He.ga K "law") fd
structure Ft (K : PySem.W.Frag) (mg : Str → Option Value) : Prop where
  g_p_is_integer : mg "is_integer" = some (.ref (He.ga K "is_integer"))
  d_p_is_integer : ∃ fd, Fun_p_is_integer K fd
  g_p_is_row : mg "is_row" = some (.ref (He.ga K "is_row"))
  d_p_is_row : ∃ fd, Fun_p_is_row K fd
  g_p_are_rows : mg "are_rows" = some (.ref (He.ga K "are_rows"))
  d_p_are_rows : ∃ fd, Fun_p_are_rows K fd
  g_p_require_base : mg "require_base" = some (.ref (He.ga K "require_base"))
  d_p_require_base : ∃ fd, Fun_p_require_base K fd
  g_p_require_modulus : mg "require_modulus" = some (.ref (He.ga K "require_modulus"))
  d_p_require_modulus : ∃ fd, Fun_p_require_modulus K fd
  g_p_require_weights : mg "require_weights" = some (.ref (He.ga K "require_weights"))
  d_p_require_weights : ∃ fd, Fun_p_require_weights K fd
  g_p_require_remainder : mg "require_remainder" = some (.ref (He.ga K "require_remainder"))
  d_p_require_remainder : ∃ fd, Fun_p_require_remainder K fd
  g_p_weighted_rows : mg "weighted_rows" = some (.ref (He.ga K "weighted_rows"))
  d_p_weighted_rows : ∃ fd, Fun_p_weighted_rows K fd
  d_p_Rule___init__ : ∃ fd, Fun_p_Rule___init__ K fd
  d_p_Rule_weighted : ∃ fd, Fun_p_Rule_weighted K fd
  d_p_Rule_modulus : ∃ fd, Fun_p_Rule_modulus K fd
  d_p_Rule_rows : ∃ fd, Fun_p_Rule_rows K fd
  d_p_Rule_remainder : ∃ fd, Fun_p_Rule_remainder K fd
  d_p_Rule_base : ∃ fd, Fun_p_Rule_base K fd
  d_p_Rule___len__ : ∃ fd, Fun_p_Rule___len__ K fd
  d_p_Rule___eq__ : ∃ fd, Fun_p_Rule___eq__ K fd
  g_p_number_in_T : mg "number_in" = some (.ref (He.ga K "number_in"))
  d_p_number_in_T : ∃ fd, Fun_p_number_in_T K fd
  g_p_read_weights_T : mg "read_weights" = some (.ref (He.ga K "read_weights"))
  d_p_read_weights_T : ∃ fd, Fun_p_read_weights_T K fd
  g_p_rule_of_numbers : mg "rule_of_numbers" = some (.ref (He.ga K "rule_of_numbers"))
  d_p_rule_of_numbers : ∃ fd, Fun_p_rule_of_numbers K fd
  g_p_format_weights : mg "format_weights" = some (.ref (He.ga K "format_weights"))
  d_p_format_weights : ∃ fd, Fun_p_format_weights K fd
  g_p_parse_weights : mg "parse_weights" = some (.ref (He.ga K "parse_weights"))
  d_p_parse_weights : ∃ fd, Fun_p_parse_weights K fd
  g_law_purse : mg "_law_purse" = some (.ref (He.ga K "_law_purse"))
  d_law_purse : ∃ fd, Fun_law_purse K fd
  g_law_coin : mg "_law_coin" = some (.ref (He.ga K "_law_coin"))
  d_law_coin : ∃ fd, Fun_law_coin K fd
  g_law_numbers : mg "_law_numbers" = some (.ref (He.ga K "_law_numbers"))
  d_law_numbers : ∃ fd, Fun_law_numbers K fd
  g_law_page : mg "_law_page" = some (.ref (He.ga K "_law_page"))
  d_law_page : ∃ fd, Fun_law_page K fd
  g_law_lines : mg "_law_lines" = some (.ref (He.ga K "_law_lines"))
  d_law_lines : ∃ fd, Fun_law_lines K fd
  g_law_right : mg "_law_right" = some (.ref (He.ga K "_law_right"))
  d_law_right : ∃ fd, Fun_law_right K fd
  g_p_law : mg "law" = some (.ref (He.ga K "law"))
  d_p_law : ∃ fd, Fun_p_law K fd
  g_p_InvalidBase : mg "InvalidBase" = some (.ref (He.ga K "InvalidBase"))
  e_InvalidBase : ExcF K "InvalidBase"
  g_p_InvalidModulus : mg "InvalidModulus" = some (.ref (He.ga K "InvalidModulus"))
  e_InvalidModulus : ExcF K "InvalidModulus"
  g_p_InvalidRemainder : mg "InvalidRemainder" = some (.ref (He.ga K "InvalidRemainder"))
  e_InvalidRemainder : ExcF K "InvalidRemainder"
  g_p_InvalidRows : mg "InvalidRows" = some (.ref (He.ga K "InvalidRows"))
  e_InvalidRows : ExcF K "InvalidRows"
  g_p_InvalidWeights : mg "InvalidWeights" = some (.ref (He.ga K "InvalidWeights"))
  e_InvalidWeights : ExcF K "InvalidWeights"
  n_abs : mg "abs" = none
  n_all : mg "all" = none
  n_bool : mg "bool" = none
  n_enumerate : mg "enumerate" = none
  n_int : mg "int" = none
  n_isinstance : mg "isinstance" = none
  n_len : mg "len" = none
  n_max : mg "max" = none
  n_min : mg "min" = none
  n_range : mg "range" = none
  n_repr : mg "repr" = none
  n_str : mg "str" = none
  n_tuple : mg "tuple" = none
  i_GREATEST_BASE : ∃ t, mg "GREATEST_BASE" = some (.int 36 t)
  i_GREATEST_MODULUS : ∃ t, mg "GREATEST_MODULUS" = some (.int 200 t)
  i_HEAD : ∃ t, mg "HEAD" = some (.int 3 t)
  i_MOST_FIGURES : ∃ t, mg "MOST_FIGURES" = some (.int 3 t)
  i_MOST_PLACES : ∃ t, mg "MOST_PLACES" = some (.int 30 t)
  s_FIGURES : ∃ t, mg "FIGURES" = some (.str "0123456789" t)
  c_p_Rule : ClsF K "Rule"
  cm_p_Rule_weighted : ClX.CMet K (He.ga K "Rule") (.type "type") "weighted" (He.ma K (He.ga K "Rule") "weighted") (cg K "Rule" "weighted")
  cr_p_Rule : ClX.CRead K (He.ga K "Rule") (.type "type")
  g_p_Rule : mg "Rule" = some (.ref (He.ga K "Rule"))
  mk_p_Rule : Mk K (He.ga K "Rule") (He.ma K (He.ga K "Rule") "__init__")
  na_p_Rule_divisor : NoAttr K (He.ga K "Rule") "divisor"
  na_p_Rule_lines : NoAttr K (He.ga K "Rule") "lines"
  na_p_Rule_wanted : NoAttr K (He.ga K "Rule") "wanted"
  ow_p_Rule___eq__ : OwnF K "Rule" "__eq__" (He.ma K (He.ga K "Rule") "__eq__")
  ow_p_Rule___len__ : OwnF K "Rule" "__len__" (He.ma K (He.ga K "Rule") "__len__")
  pr_p_Rule_base : PropOf K (He.ga K "Rule") "base" (He.ma K (He.ga K "Rule") "base") (pg K "Rule" "base")
  pr_p_Rule_modulus : PropOf K (He.ga K "Rule") "modulus" (He.ma K (He.ga K "Rule") "modulus") (pg K "Rule" "modulus")
  pr_p_Rule_remainder : PropOf K (He.ga K "Rule") "remainder" (He.ma K (He.ga K "Rule") "remainder") (pg K "Rule" "remainder")
  pr_p_Rule_rows : PropOf K (He.ga K "Rule") "rows" (He.ma K (He.ga K "Rule") "rows") (pg K "Rule" "rows")
  sb_p_Rule : (∀ T ∈ (["NoneType", "bool", "int", "str", "tuple", "list", "dict"] : List String), PySem.W.subIn K (.type T) (.ref (He.ga K "Rule")) = some false) ∧ PySem.W.findIn K (.ref (He.ga K "Rule")) "__ne__" = some (some (.builtin "object.__ne__")) ∧ PySem.W.subIn K (.ref (He.ga K "Rule")) (.type "object") = some true
section
variable {K : PySem.W.Frag} {fd : FuncData}
theorem kb_law_purse_2 (Fd : Fun_law_purse K fd) : KBd K fd ["script", "k"] 2 [] (fun ds _ => ds) :=
  kbd_pos Fd (fun _ _ _ _ _ _ us hl => match us, hl with | [_, _], _ => rfl)
theorem kb_law_right_1 (Fd : Fun_law_right K fd) : KBd K fd ["numbers"] 1 [] (fun ds _ => ds) :=
  kbd_pos Fd (fun _ _ _ _ _ _ us hl => match us, hl with | [_], _ => rfl)
theorem kb_p_format_weights_4 (Fd : Fun_p_format_weights K fd) : KBd K fd ["base", "modulus", "weights", "remainder"] 4 [] (fun ds _ => ds) :=
  kbd_pos Fd (fun _ _ _ _ _ _ us hl => match us, hl with | [_, _, _, _], _ => rfl)
theorem kb_p_parse_weights_1 (Fd : Fun_p_parse_weights K fd) : KBd K fd ["text"] 1 [] (fun ds _ => ds) :=
  kbd_pos Fd (fun _ _ _ _ _ _ us hl => match us, hl with | [_], _ => rfl)
theorem kb_law_page_1 (Fd : Fun_law_page K fd) : KBd K fd ["numbers"] 1 [] (fun ds _ => ds) :=
  kbd_pos Fd (fun _ _ _ _ _ _ us hl => match us, hl with | [_], _ => rfl)
theorem kb_law_lines_1 (Fd : Fun_law_lines K fd) : KBd K fd ["numbers"] 1 [] (fun ds _ => ds) :=
  kbd_pos Fd (fun _ _ _ _ _ _ us hl => match us, hl with | [_], _ => rfl)
theorem kb_p_format_weights_0_remainder_weights_modulus_base (Fd : Fun_p_format_weights K fd) : KBd K fd ["base", "modulus", "weights", "remainder"] 0 ["remainder", "weights", "modulus", "base"] (fun ds es => pick [3, 2, 1, 0] (ds ++ es)) :=
  kbd_kw Fd 0 ["remainder", "weights", "modulus", "base"] [3, 2, 1, 0] (fun _ _ _ _ _ _ us ws h1 h2 => match us, h1, ws, h2 with | [], _, [_, _, _, _], _ => rfl)
theorem kb_p_parse_weights_0_text (Fd : Fun_p_parse_weights K fd) : KBd K fd ["text"] 0 ["text"] (fun ds es => pick [0] (ds ++ es)) :=
  kbd_kw Fd 0 ["text"] [0] (fun _ _ _ _ _ _ us ws h1 h2 => match us, h1, ws, h2 with | [], _, [_], _ => rfl)
theorem kb_p_Rule_weighted_5 (Fd : Fun_p_Rule_weighted K fd) : KBd K fd ["cls", "base", "modulus", "weights", "remainder"] 5 [] (fun ds es => pick [0, 1, 2, 3, 4] (ds ++ es ++ [.int 0])) :=
  kbd_df Fd 5 [] [.int 0] [0, 1, 2, 3, 4] (by decide) (fun _ => .cons (.int _) (.nil)) (fun _ _ _ _ _ _ _ us its ws h1 h2 h3 => match us, h1, its, h2, ws, h3 with | [_, _, _, _, _], _, [_], _, [], _ => ⟨_, rfl, rfl⟩)
theorem kb_p_require_modulus_1 (Fd : Fun_p_require_modulus K fd) : KBd K fd ["value"] 1 [] (fun ds _ => ds) :=
  kbd_pos Fd (fun _ _ _ _ _ _ us hl => match us, hl with | [_], _ => rfl)
theorem kb_p_are_rows_2 (Fd : Fun_p_are_rows K fd) : KBd K fd ["value", "modulus"] 2 [] (fun ds _ => ds) :=
  kbd_pos Fd (fun _ _ _ _ _ _ us hl => match us, hl with | [_, _], _ => rfl)
theorem kb_p_require_remainder_2 (Fd : Fun_p_require_remainder K fd) : KBd K fd ["value", "modulus"] 2 [] (fun ds _ => ds) :=
  kbd_pos Fd (fun _ _ _ _ _ _ us hl => match us, hl with | [_, _], _ => rfl)
theorem kb_p_is_integer_3 (Fd : Fun_p_is_integer K fd) : KBd K fd ["value", "low", "high"] 3 [] (fun ds _ => ds) :=
  kbd_pos Fd (fun _ _ _ _ _ _ us hl => match us, hl with | [_, _, _], _ => rfl)
theorem kb_p_is_row_3 (Fd : Fun_p_is_row K fd) : KBd K fd ["value", "length", "modulus"] 3 [] (fun ds _ => ds) :=
  kbd_pos Fd (fun _ _ _ _ _ _ us hl => match us, hl with | [_, _, _], _ => rfl)
theorem kb_p_require_base_1 (Fd : Fun_p_require_base K fd) : KBd K fd ["value"] 1 [] (fun ds _ => ds) :=
  kbd_pos Fd (fun _ _ _ _ _ _ us hl => match us, hl with | [_], _ => rfl)
theorem kb_p_require_weights_1 (Fd : Fun_p_require_weights K fd) : KBd K fd ["value"] 1 [] (fun ds _ => ds) :=
  kbd_pos Fd (fun _ _ _ _ _ _ us hl => match us, hl with | [_], _ => rfl)
theorem kb_p_weighted_rows_3 (Fd : Fun_p_weighted_rows K fd) : KBd K fd ["base", "modulus", "weights"] 3 [] (fun ds _ => ds) :=
  kbd_pos Fd (fun _ _ _ _ _ _ us hl => match us, hl with | [_, _, _], _ => rfl)
theorem kb_p_read_weights_T_1 (Fd : Fun_p_read_weights_T K fd) : KBd K fd ["text"] 1 [] (fun ds _ => ds) :=
  kbd_pos Fd (fun _ _ _ _ _ _ us hl => match us, hl with | [_], _ => rfl)
theorem kb_p_rule_of_numbers_1 (Fd : Fun_p_rule_of_numbers K fd) : KBd K fd ["numbers"] 1 [] (fun ds _ => ds) :=
  kbd_pos Fd (fun _ _ _ _ _ _ us hl => match us, hl with | [_], _ => rfl)
theorem kb_p_number_in_T_2 (Fd : Fun_p_number_in_T K fd) : KBd K fd ["word", "most"] 2 [] (fun ds _ => ds) :=
  kbd_pos Fd (fun _ _ _ _ _ _ us hl => match us, hl with | [_, _], _ => rfl)
theorem kbs_p_Rule___init___3 (Fd : Fun_p_Rule___init__ K fd) : KBs K fd ["self", "modulus", "rows", "remainder"] 3 [] (fun ds es => pick [0, 1, 2] (ds ++ es)) :=
  kbs_kw Fd 3 [] [0, 1, 2] (fun _ _ _ _ _ _ us ws h1 h2 => match us, h1, ws, h2 with | [_, _, _, _], _, [], _ => rfl)
theorem kbs_len_kbs_p_Rule___init___3 : ∀ ds es : List D, ds.length = 3 → es.length = 0 → ((fun ds es => pick [0, 1, 2] (ds ++ es)) ds es).length = 3 := fun ds es h1 h2 => match ds, h1, es, h2 with | [_, _, _], _, [], _ => rfl
theorem bt_p_Rule___eq__ (Fd : Fun_p_Rule___eq__ K fd) : L2.Binds K fd ["self", "other"] [] :=
  FunD.bindsN Fd fun _ _ _ _ _ _ us hl => match us, hl with | [_, _], _ => rfl
theorem bt_p_Rule___len__ (Fd : Fun_p_Rule___len__ K fd) : L2.Binds K fd ["self"] [] :=
  FunD.bindsN Fd fun _ _ _ _ _ _ us hl => match us, hl with | [_], _ => rfl
theorem bt_p_Rule_base (Fd : Fun_p_Rule_base K fd) : L2.Binds K fd ["self"] [] :=
  FunD.bindsN Fd fun _ _ _ _ _ _ us hl => match us, hl with | [_], _ => rfl
theorem bt_p_Rule_modulus (Fd : Fun_p_Rule_modulus K fd) : L2.Binds K fd ["self"] [] :=
  FunD.bindsN Fd fun _ _ _ _ _ _ us hl => match us, hl with | [_], _ => rfl
theorem bt_p_Rule_remainder (Fd : Fun_p_Rule_remainder K fd) : L2.Binds K fd ["self"] [] :=
  FunD.bindsN Fd fun _ _ _ _ _ _ us hl => match us, hl with | [_], _ => rfl
theorem bt_p_Rule_rows (Fd : Fun_p_Rule_rows K fd) : L2.Binds K fd ["self"] [] :=
  FunD.bindsN Fd fun _ _ _ _ _ _ us hl => match us, hl with | [_], _ => rfl
theorem bt_law_coin (Fd : Fun_law_coin K fd) : L2.Binds K fd ["purse", "many"] [] :=
  FunD.bindsN Fd fun _ _ _ _ _ _ us hl => match us, hl with | [_, _], _ => rfl
theorem bt_law_numbers (Fd : Fun_law_numbers K fd) : L2.Binds K fd ["purse"] [] :=
  FunD.bindsN Fd fun _ _ _ _ _ _ us hl => match us, hl with | [_], _ => rfl
end
section
variable {P : Program} {w : World} {K : PySem.W.Frag} {mg : Str → Option Value} {base : Heap}
theorem sc_p_is_integer : FnScope ["value", "low", "high"] ["value", "low", "high"] (defScope t_p_is_integer) := ⟨rfl, rfl, rfl, by decide +kernel, rfl, by decide +kernel, by decide +kernel⟩
theorem ok_p_is_integer (h : Ft K mg) {fd : FuncData} (Fd : Fun_p_is_integer K fd) : FnG P w K mg base 1 (He.ga K "is_integer") fd ["value", "low", "high"] (spP K fr_p_is_integer) := by
  show FnG P w K mg base (0 + 1) (He.ga K "is_integer") fd ["value", "low", "high"] (spP K (runP ["value", "low", "high"].length ["value", "low", "high"].length m_p_is_integer))
  refine fn_pure (N := ["value", "low", "high"]) (ps := ["value", "low", "high"]) (k := 0) (m := m_p_is_integer) Fd sc_p_is_integer ?_
  intro cdv A outer s H E hr tk hp
  have nd := sc_p_is_integer.nd
  have hg := hr.grd
  have hu : (A.deeper (envOfC "is_integer" (defScope t_p_is_integer) s.heap.objs.size (He.ga K "is_integer") cdv)).units + 64 < cLine := by have := hr.room.un; omega
  have hu2 : (A.deeper (envOfC "is_integer" (defScope t_p_is_integer) s.heap.objs.size (He.ga K "is_integer") cdv)).units + 100 < cLine := by have := hr.room.un; omega
  have hu3 : (A.deeper (envOfC "is_integer" (defScope t_p_is_integer) s.heap.objs.size (He.ga K "is_integer") cdv)).units + 65 < cLine := by have := hr.room.un; omega
  exact (pst_cons (pst_if (px_w (px_or (px_tnot (px_tst (px_isiT h.n_isinstance h.n_int (px_var 0)))) (px_or1 (px_tst (px_isiT h.n_isinstance h.n_bool (px_var 0)))))) (pst_one (pst_ret px_bl)) pst_nil) (pst_one (pst_ret (px_andV (px_orV (px_cmp opd_is (px_var 1) px_non) (px_one (px_cmp opd_le (px_var 1) (px_var 0)))) (px_one (px_orV (px_cmp opd_is (px_var 2) px_non) (px_one (px_cmp opd_le (px_var 0) (px_var 2)))))))))
theorem sc_p_is_row : FnScope ["value", "length", "modulus", "x"] ["value", "length", "modulus"] (defScope t_p_is_row) := ⟨rfl, rfl, rfl, by decide +kernel, rfl, by decide +kernel, by decide +kernel⟩
theorem ok_p_is_row (h : Ft K mg) {fd : FuncData} (Fd : Fun_p_is_row K fd) : FnG P w K mg base 2 (He.ga K "is_row") fd ["value", "length", "modulus"] (spP K fr_p_is_row) := by
  obtain ⟨_, F_p_is_integer⟩ := h.d_p_is_integer
  have G_p_is_integer := ok_p_is_integer (P := P) (w := w) (base := base) h F_p_is_integer
  show FnG P w K mg base (1 + 1) (He.ga K "is_row") fd ["value", "length", "modulus"] (spP K (runP ["value", "length", "modulus", "x"].length ["value", "length", "modulus"].length m_p_is_row))
  refine fn_pure (N := ["value", "length", "modulus", "x"]) (ps := ["value", "length", "modulus"]) (k := 1) (m := m_p_is_row) Fd sc_p_is_row ?_
  intro cdv A outer s H E hr tk hp
  have nd := sc_p_is_row.nd
  have hg := hr.grd
  have hu : (A.deeper (envOfC "is_row" (defScope t_p_is_row) s.heap.objs.size (He.ga K "is_row") cdv)).units + 64 < cLine := by have := hr.room.un; omega
  have hu2 : (A.deeper (envOfC "is_row" (defScope t_p_is_row) s.heap.objs.size (He.ga K "is_row") cdv)).units + 100 < cLine := by have := hr.room.un; omega
  have hu3 : (A.deeper (envOfC "is_row" (defScope t_p_is_row) s.heap.objs.size (He.ga K "is_row") cdv)).units + 65 < cLine := by have := hr.room.un; omega
  exact (pst_one (pst_ret (px_andV (px_isiT h.n_isinstance h.n_tuple (px_var 0)) (px_andV (px_cmp (opd_eq hu) (px_callB cd_len h.n_len (pxa_cons (px_var 0) pxa_nil)) (px_var 1)) (px_one (px_callB (cd_all rfl) h.n_all (pxa_cons (px_fz (px_lc (own := [("x", 3)]) rfl nd (pit_any (px_var 0)) (blkOk_by (N := ["value", "length", "modulus", "x"]) (sc := defScope t_p_is_row) (by decide +kernel)) (fun _ _ _ _ _ => (pgt_name (i := 3) nd)) (fun _ _ _ _ _ => pts_yes) (fun _ _ _ _ _ => (px_fz (px_call G_p_is_integer (hr.le (by decide)) takes0 (kb_p_is_integer_3 F_p_is_integer) h.g_p_is_integer F_p_is_integer.kp (pxa_cons (px_var 3) (pxa_cons px_int (pxa_cons (px_bin opd_sub (px_var 2) px_int) pxa_nil)))))))) pxa_nil)))))))
theorem sc_p_are_rows : FnScope ["value", "modulus", "length", "row"] ["value", "modulus"] (defScope t_p_are_rows) := ⟨rfl, rfl, rfl, by decide +kernel, rfl, by decide +kernel, by decide +kernel⟩
theorem ok_p_are_rows (h : Ft K mg) {fd : FuncData} (Fd : Fun_p_are_rows K fd) : FnG P w K mg base 3 (He.ga K "are_rows") fd ["value", "modulus"] (spP K fr_p_are_rows) := by
  obtain ⟨_, F_p_is_row⟩ := h.d_p_is_row
  have G_p_is_row := ok_p_is_row (P := P) (w := w) (base := base) h F_p_is_row
  obtain ⟨_, i_GREATEST_BASE⟩ := h.i_GREATEST_BASE
  obtain ⟨_, i_MOST_PLACES⟩ := h.i_MOST_PLACES
  show FnG P w K mg base (2 + 1) (He.ga K "are_rows") fd ["value", "modulus"] (spP K (runP ["value", "modulus", "length", "row"].length ["value", "modulus"].length m_p_are_rows))
  refine fn_pure (N := ["value", "modulus", "length", "row"]) (ps := ["value", "modulus"]) (k := 2) (m := m_p_are_rows) Fd sc_p_are_rows ?_
  intro cdv A outer s H E hr tk hp
  have nd := sc_p_are_rows.nd
  have hg := hr.grd
  have hu : (A.deeper (envOfC "are_rows" (defScope t_p_are_rows) s.heap.objs.size (He.ga K "are_rows") cdv)).units + 64 < cLine := by have := hr.room.un; omega
  have hu2 : (A.deeper (envOfC "are_rows" (defScope t_p_are_rows) s.heap.objs.size (He.ga K "are_rows") cdv)).units + 100 < cLine := by have := hr.room.un; omega
  have hu3 : (A.deeper (envOfC "are_rows" (defScope t_p_are_rows) s.heap.objs.size (He.ga K "are_rows") cdv)).units + 65 < cLine := by have := hr.room.un; omega
  exact (pst_cons (pst_if (px_w (px_or (px_tnot (px_tst (px_isiT h.n_isinstance h.n_tuple (px_var 0)))) (px_or (px_tnot (px_tchain opd_le opd_le px_int (px_callB cd_len h.n_len (pxa_cons (px_var 0) pxa_nil)) (px_gint i_MOST_PLACES))) (px_or1 (px_tnot (px_tst (px_isiT h.n_isinstance h.n_tuple (px_ix ixd_seq (px_var 0) px_int)))))))) (pst_one (pst_ret px_bl)) pst_nil) (pst_cons (pst_set (i := 2) nd (px_callB cd_len h.n_len (pxa_cons (px_ix ixd_seq (px_var 0) px_int) pxa_nil))) (pst_one (pst_ret (px_andV (px_chain opd_le opd_le px_int (px_var 2) (px_gint i_GREATEST_BASE)) (px_one (px_callB (cd_all rfl) h.n_all (pxa_cons (px_fz (px_lc (own := [("row", 3)]) rfl nd (pit_any (px_var 0)) (blkOk_by (N := ["value", "modulus", "length", "row"]) (sc := defScope t_p_are_rows) (by decide +kernel)) (fun _ _ _ _ _ => (pgt_name (i := 3) nd)) (fun _ _ _ _ _ => pts_yes) (fun _ _ _ _ _ => (px_fz (px_call G_p_is_row (hr.le (by decide)) takes0 (kb_p_is_row_3 F_p_is_row) h.g_p_is_row F_p_is_row.kp (pxa_cons (px_var 3) (pxa_cons (px_var 2) (pxa_cons (px_var 1) pxa_nil)))))))) pxa_nil))))))))
theorem sc_p_require_base : FnScope ["value"] ["value"] (defScope t_p_require_base) := ⟨rfl, rfl, rfl, by decide +kernel, rfl, by decide +kernel, by decide +kernel⟩
theorem ok_p_require_base (h : Ft K mg) {fd : FuncData} (Fd : Fun_p_require_base K fd) : FnG P w K mg base 2 (He.ga K "require_base") fd ["value"] (spP K fr_p_require_base) := by
  obtain ⟨_, F_p_is_integer⟩ := h.d_p_is_integer
  have G_p_is_integer := ok_p_is_integer (P := P) (w := w) (base := base) h F_p_is_integer
  obtain ⟨_, i_GREATEST_BASE⟩ := h.i_GREATEST_BASE
  show FnG P w K mg base (1 + 1) (He.ga K "require_base") fd ["value"] (spP K (runP ["value"].length ["value"].length m_p_require_base))
  refine fn_pure (N := ["value"]) (ps := ["value"]) (k := 1) (m := m_p_require_base) Fd sc_p_require_base ?_
  intro cdv A outer s H E hr tk hp
  have nd := sc_p_require_base.nd
  have hg := hr.grd
  have hu : (A.deeper (envOfC "require_base" (defScope t_p_require_base) s.heap.objs.size (He.ga K "require_base") cdv)).units + 64 < cLine := by have := hr.room.un; omega
  have hu2 : (A.deeper (envOfC "require_base" (defScope t_p_require_base) s.heap.objs.size (He.ga K "require_base") cdv)).units + 100 < cLine := by have := hr.room.un; omega
  have hu3 : (A.deeper (envOfC "require_base" (defScope t_p_require_base) s.heap.objs.size (He.ga K "require_base") cdv)).units + 65 < cLine := by have := hr.room.un; omega
  exact (pst_one (pst_if (px_tnot (px_tst (px_fz (px_call G_p_is_integer (hr.le (by decide)) tk (kb_p_is_integer_3 F_p_is_integer) h.g_p_is_integer F_p_is_integer.kp (pxa_cons (px_var 0) (pxa_cons px_int (pxa_cons (px_gint i_GREATEST_BASE) pxa_nil))))))) (pst_one (pst_raise h.e_InvalidBase h.g_p_InvalidBase tk rfl)) pst_nil))
theorem sc_p_require_modulus : FnScope ["value"] ["value"] (defScope t_p_require_modulus) := ⟨rfl, rfl, rfl, by decide +kernel, rfl, by decide +kernel, by decide +kernel⟩
theorem ok_p_require_modulus (h : Ft K mg) {fd : FuncData} (Fd : Fun_p_require_modulus K fd) : FnG P w K mg base 2 (He.ga K "require_modulus") fd ["value"] (spP K fr_p_require_modulus) := by
  obtain ⟨_, F_p_is_integer⟩ := h.d_p_is_integer
  have G_p_is_integer := ok_p_is_integer (P := P) (w := w) (base := base) h F_p_is_integer
  obtain ⟨_, i_GREATEST_MODULUS⟩ := h.i_GREATEST_MODULUS
  show FnG P w K mg base (1 + 1) (He.ga K "require_modulus") fd ["value"] (spP K (runP ["value"].length ["value"].length m_p_require_modulus))
  refine fn_pure (N := ["value"]) (ps := ["value"]) (k := 1) (m := m_p_require_modulus) Fd sc_p_require_modulus ?_
  intro cdv A outer s H E hr tk hp
  have nd := sc_p_require_modulus.nd
  have hg := hr.grd
  have hu : (A.deeper (envOfC "require_modulus" (defScope t_p_require_modulus) s.heap.objs.size (He.ga K "require_modulus") cdv)).units + 64 < cLine := by have := hr.room.un; omega
  have hu2 : (A.deeper (envOfC "require_modulus" (defScope t_p_require_modulus) s.heap.objs.size (He.ga K "require_modulus") cdv)).units + 100 < cLine := by have := hr.room.un; omega
  have hu3 : (A.deeper (envOfC "require_modulus" (defScope t_p_require_modulus) s.heap.objs.size (He.ga K "require_modulus") cdv)).units + 65 < cLine := by have := hr.room.un; omega
  exact (pst_one (pst_if (px_tnot (px_tst (px_fz (px_call G_p_is_integer (hr.le (by decide)) tk (kb_p_is_integer_3 F_p_is_integer) h.g_p_is_integer F_p_is_integer.kp (pxa_cons (px_var 0) (pxa_cons px_int (pxa_cons (px_gint i_GREATEST_MODULUS) pxa_nil))))))) (pst_one (pst_raise h.e_InvalidModulus h.g_p_InvalidModulus tk rfl)) pst_nil))
theorem sc_p_require_weights : FnScope ["value", "weight"] ["value"] (defScope t_p_require_weights) := ⟨rfl, rfl, rfl, by decide +kernel, rfl, by decide +kernel, by decide +kernel⟩
theorem ok_p_require_weights (h : Ft K mg) {fd : FuncData} (Fd : Fun_p_require_weights K fd) : FnG P w K mg base 2 (He.ga K "require_weights") fd ["value"] (spP K fr_p_require_weights) := by
  obtain ⟨_, F_p_is_integer⟩ := h.d_p_is_integer
  have G_p_is_integer := ok_p_is_integer (P := P) (w := w) (base := base) h F_p_is_integer
  obtain ⟨_, i_MOST_PLACES⟩ := h.i_MOST_PLACES
  show FnG P w K mg base (1 + 1) (He.ga K "require_weights") fd ["value"] (spP K (runP ["value", "weight"].length ["value"].length m_p_require_weights))
  refine fn_pure (N := ["value", "weight"]) (ps := ["value"]) (k := 1) (m := m_p_require_weights) Fd sc_p_require_weights ?_
  intro cdv A outer s H E hr tk hp
  have nd := sc_p_require_weights.nd
  have hg := hr.grd
  have hu : (A.deeper (envOfC "require_weights" (defScope t_p_require_weights) s.heap.objs.size (He.ga K "require_weights") cdv)).units + 64 < cLine := by have := hr.room.un; omega
  have hu2 : (A.deeper (envOfC "require_weights" (defScope t_p_require_weights) s.heap.objs.size (He.ga K "require_weights") cdv)).units + 100 < cLine := by have := hr.room.un; omega
  have hu3 : (A.deeper (envOfC "require_weights" (defScope t_p_require_weights) s.heap.objs.size (He.ga K "require_weights") cdv)).units + 65 < cLine := by have := hr.room.un; omega
  exact (pst_cons (pst_if (px_w (px_or (px_tnot (px_tst (px_isiT h.n_isinstance h.n_tuple (px_var 0)))) (px_or1 (px_tnot (px_tchain opd_le opd_le px_int (px_callB cd_len h.n_len (pxa_cons (px_var 0) pxa_nil)) (px_gint i_MOST_PLACES)))))) (pst_one (pst_raise h.e_InvalidWeights h.g_p_InvalidWeights tk rfl)) pst_nil) (pst_one (pst_if (px_tnot (px_tst (px_callB (cd_all rfl) h.n_all (pxa_cons (px_fz (px_lc (own := [("weight", 1)]) rfl nd (pit_any (px_var 0)) (blkOk_by (N := ["value", "weight"]) (sc := defScope t_p_require_weights) (by decide +kernel)) (fun _ _ _ _ _ => (pgt_name (i := 1) nd)) (fun _ _ _ _ _ => pts_yes) (fun _ _ _ _ _ => (px_fz (px_call G_p_is_integer (hr.le (by decide)) takes0 (kb_p_is_integer_3 F_p_is_integer) h.g_p_is_integer F_p_is_integer.kp (pxa_cons (px_var 1) (pxa_cons px_non (pxa_cons px_non pxa_nil)))))))) pxa_nil)))) (pst_one (pst_raise h.e_InvalidWeights h.g_p_InvalidWeights tk rfl)) pst_nil)))
theorem sc_p_require_remainder : FnScope ["value", "modulus"] ["value", "modulus"] (defScope t_p_require_remainder) := ⟨rfl, rfl, rfl, by decide +kernel, rfl, by decide +kernel, by decide +kernel⟩
theorem ok_p_require_remainder (h : Ft K mg) {fd : FuncData} (Fd : Fun_p_require_remainder K fd) : FnG P w K mg base 2 (He.ga K "require_remainder") fd ["value", "modulus"] (spP K fr_p_require_remainder) := by
  obtain ⟨_, F_p_is_integer⟩ := h.d_p_is_integer
  have G_p_is_integer := ok_p_is_integer (P := P) (w := w) (base := base) h F_p_is_integer
  show FnG P w K mg base (1 + 1) (He.ga K "require_remainder") fd ["value", "modulus"] (spP K (runP ["value", "modulus"].length ["value", "modulus"].length m_p_require_remainder))
  refine fn_pure (N := ["value", "modulus"]) (ps := ["value", "modulus"]) (k := 1) (m := m_p_require_remainder) Fd sc_p_require_remainder ?_
  intro cdv A outer s H E hr tk hp
  have nd := sc_p_require_remainder.nd
  have hg := hr.grd
  have hu : (A.deeper (envOfC "require_remainder" (defScope t_p_require_remainder) s.heap.objs.size (He.ga K "require_remainder") cdv)).units + 64 < cLine := by have := hr.room.un; omega
  have hu2 : (A.deeper (envOfC "require_remainder" (defScope t_p_require_remainder) s.heap.objs.size (He.ga K "require_remainder") cdv)).units + 100 < cLine := by have := hr.room.un; omega
  have hu3 : (A.deeper (envOfC "require_remainder" (defScope t_p_require_remainder) s.heap.objs.size (He.ga K "require_remainder") cdv)).units + 65 < cLine := by have := hr.room.un; omega
  exact (pst_one (pst_if (px_tnot (px_tst (px_fz (px_call G_p_is_integer (hr.le (by decide)) tk (kb_p_is_integer_3 F_p_is_integer) h.g_p_is_integer F_p_is_integer.kp (pxa_cons (px_var 0) (pxa_cons px_int (pxa_cons (px_bin opd_sub (px_var 1) px_int) pxa_nil))))))) (pst_one (pst_raise h.e_InvalidRemainder h.g_p_InvalidRemainder tk rfl)) pst_nil))
theorem sc_p_weighted_rows : FnScope ["base", "modulus", "weights", "weight", "digit"] ["base", "modulus", "weights"] (defScope t_p_weighted_rows) := ⟨rfl, rfl, rfl, by decide +kernel, rfl, by decide +kernel, by decide +kernel⟩
theorem ok_p_weighted_rows (h : Ft K mg) {fd : FuncData} (Fd : Fun_p_weighted_rows K fd) : FnG P w K mg base 1 (He.ga K "weighted_rows") fd ["base", "modulus", "weights"] (spP K fr_p_weighted_rows) := by
  show FnG P w K mg base (0 + 1) (He.ga K "weighted_rows") fd ["base", "modulus", "weights"] (spP K (runP ["base", "modulus", "weights", "weight", "digit"].length ["base", "modulus", "weights"].length m_p_weighted_rows))
  refine fn_pure (N := ["base", "modulus", "weights", "weight", "digit"]) (ps := ["base", "modulus", "weights"]) (k := 0) (m := m_p_weighted_rows) Fd sc_p_weighted_rows ?_
  intro cdv A outer s H E hr tk hp
  have nd := sc_p_weighted_rows.nd
  have hg := hr.grd
  have hu : (A.deeper (envOfC "weighted_rows" (defScope t_p_weighted_rows) s.heap.objs.size (He.ga K "weighted_rows") cdv)).units + 64 < cLine := by have := hr.room.un; omega
  have hu2 : (A.deeper (envOfC "weighted_rows" (defScope t_p_weighted_rows) s.heap.objs.size (He.ga K "weighted_rows") cdv)).units + 100 < cLine := by have := hr.room.un; omega
  have hu3 : (A.deeper (envOfC "weighted_rows" (defScope t_p_weighted_rows) s.heap.objs.size (He.ga K "weighted_rows") cdv)).units + 65 < cLine := by have := hr.room.un; omega
  exact (pst_one (pst_ret (px_callTy cd_tuple h.n_tuple (pxa_cons (px_fz (px_lc (own := [("weight", 3)]) rfl nd (pit_any (px_var 2)) (blkOk_by (N := ["base", "modulus", "weights", "weight", "digit"]) (sc := defScope t_p_weighted_rows) (by decide +kernel)) (fun _ _ _ _ _ => (pgt_name (i := 3) nd)) (fun _ _ _ _ _ => pts_yes) (fun _ _ _ _ _ => (px_callTy cd_tuple h.n_tuple (pxa_cons (px_fz (px_lc (own := [("digit", 4)]) rfl nd (pit_range1 h.n_range (pxa_cons (px_var 0) pxa_nil)) (blkOk_by (N := ["base", "modulus", "weights", "weight", "digit"]) (by first | rfl | with_unfolding_all rfl)) (fun _ _ _ _ _ => (pgt_name (i := 4) nd)) (fun _ _ _ _ _ => pts_yes) (fun _ _ _ _ _ => (px_bin opd_mod (px_bin opd_mul (px_var 3) (px_var 4)) (px_var 1))))) pxa_nil))))) pxa_nil))))
theorem sc_p_Rule___init__ : FnScope ["self", "modulus", "rows", "remainder"] ["self", "modulus", "rows", "remainder"] (defScope t_p_Rule___init__) := ⟨rfl, rfl, rfl, by decide +kernel, rfl, by decide +kernel, by decide +kernel⟩
theorem ok_p_Rule___init__ (h : Ft K mg) {fd : FuncData} (Fd : Fun_p_Rule___init__ K fd) : FnG P w K mg base 4 (He.ma K (He.ga K "Rule") "__init__") fd ["self", "modulus", "rows", "remainder"] (spM K [true, false, false, false] fm_p_Rule___init__) := by
  obtain ⟨_, F_p_are_rows⟩ := h.d_p_are_rows
  have G_p_are_rows := ok_p_are_rows (P := P) (w := w) (base := base) h F_p_are_rows
  obtain ⟨_, F_p_require_modulus⟩ := h.d_p_require_modulus
  have G_p_require_modulus := ok_p_require_modulus (P := P) (w := w) (base := base) h F_p_require_modulus
  obtain ⟨_, F_p_require_remainder⟩ := h.d_p_require_remainder
  have G_p_require_remainder := ok_p_require_remainder (P := P) (w := w) (base := base) h F_p_require_remainder
  show FnG P w K mg base (3 + 1) (He.ma K (He.ga K "Rule") "__init__") fd ["self", "modulus", "rows", "remainder"] (spM K [true, false, false, false] (runM ["self", "modulus", "rows", "remainder"].length [true, false, false, false] m_p_Rule___init__))
  refine fn_mut (N := ["self", "modulus", "rows", "remainder"]) (ps := ["self", "modulus", "rows", "remainder"]) (k := 3) (J := [0]) (m := m_p_Rule___init__) Fd sc_p_Rule___init__ rfl (jOk (by decide)) ?_
  intro cdv A outer s H E Wx hr tk hp
  have nd := sc_p_Rule___init__.nd
  have hg := hr.grd
  have hu : (A.deeper (envOfC "Rule.__init__" (defScope t_p_Rule___init__) s.heap.objs.size (He.ma K (He.ga K "Rule") "__init__") cdv)).units + 64 < cLine := by have := hr.room.un; omega
  have hu2 : (A.deeper (envOfC "Rule.__init__" (defScope t_p_Rule___init__) s.heap.objs.size (He.ma K (He.ga K "Rule") "__init__") cdv)).units + 100 < cLine := by have := hr.room.un; omega
  have hu3 : (A.deeper (envOfC "Rule.__init__" (defScope t_p_Rule___init__) s.heap.objs.size (He.ma K (He.ga K "Rule") "__init__") cdv)).units + 65 < cLine := by have := hr.room.un; omega
  exact (pst_cons (pst_expr (px_call G_p_require_modulus (hr.le (by decide)) tk (kb_p_require_modulus_1 F_p_require_modulus) h.g_p_require_modulus F_p_require_modulus.kp (pxa_cons (px_var 1) pxa_nil))) (pst_cons (pst_if (px_tnot (px_tst (px_fz (px_call G_p_are_rows (hr.le (by decide)) tk (kb_p_are_rows_2 F_p_are_rows) h.g_p_are_rows F_p_are_rows.kp (pxa_cons (px_var 2) (pxa_cons (px_var 1) pxa_nil)))))) (pst_one (pst_raise h.e_InvalidRows h.g_p_InvalidRows tk rfl)) pst_nil) (pst_cons (pst_expr (px_call G_p_require_remainder (hr.le (by decide)) tk (kb_p_require_remainder_2 F_p_require_remainder) h.g_p_require_remainder F_p_require_remainder.kp (pxa_cons (px_var 3) (pxa_cons (px_var 1) pxa_nil)))) (pst_cons (pst_fld (i := 0) h.na_p_Rule_divisor (px_var 1)) (pst_cons (pst_fld (i := 0) h.na_p_Rule_lines (px_var 2)) (pst_one (pst_fld (i := 0) h.na_p_Rule_wanted (px_var 3))))))))
theorem sc_p_Rule_weighted : FnScope ["cls", "base", "modulus", "weights", "remainder"] ["cls", "base", "modulus", "weights", "remainder"] (defScope t_p_Rule_weighted) := ⟨rfl, rfl, rfl, by decide +kernel, rfl, by decide +kernel, by decide +kernel⟩
theorem ok_p_Rule_weighted (h : Ft K mg) {fd : FuncData} (Fd : Fun_p_Rule_weighted K fd) : FnG P w K mg base 6 (cg K "Rule" "weighted") fd ["cls", "base", "modulus", "weights", "remainder"] (spP K fr_p_Rule_weighted) := by
  obtain ⟨_, F_p_Rule___init__⟩ := h.d_p_Rule___init__
  have G_p_Rule___init__ := ok_p_Rule___init__ (P := P) (w := w) (base := base) h F_p_Rule___init__
  obtain ⟨_, F_p_require_base⟩ := h.d_p_require_base
  have G_p_require_base := ok_p_require_base (P := P) (w := w) (base := base) h F_p_require_base
  obtain ⟨_, F_p_require_modulus⟩ := h.d_p_require_modulus
  have G_p_require_modulus := ok_p_require_modulus (P := P) (w := w) (base := base) h F_p_require_modulus
  obtain ⟨_, F_p_require_remainder⟩ := h.d_p_require_remainder
  have G_p_require_remainder := ok_p_require_remainder (P := P) (w := w) (base := base) h F_p_require_remainder
  obtain ⟨_, F_p_require_weights⟩ := h.d_p_require_weights
  have G_p_require_weights := ok_p_require_weights (P := P) (w := w) (base := base) h F_p_require_weights
  obtain ⟨_, F_p_weighted_rows⟩ := h.d_p_weighted_rows
  have G_p_weighted_rows := ok_p_weighted_rows (P := P) (w := w) (base := base) h F_p_weighted_rows
  show FnG P w K mg base (5 + 1) (cg K "Rule" "weighted") fd ["cls", "base", "modulus", "weights", "remainder"] (spP K (runP ["cls", "base", "modulus", "weights", "remainder"].length ["cls", "base", "modulus", "weights", "remainder"].length m_p_Rule_weighted))
  refine fn_pure (N := ["cls", "base", "modulus", "weights", "remainder"]) (ps := ["cls", "base", "modulus", "weights", "remainder"]) (k := 5) (m := m_p_Rule_weighted) Fd sc_p_Rule_weighted ?_
  intro cdv A outer s H E hr tk hp
  have nd := sc_p_Rule_weighted.nd
  have hg := hr.grd
  have hu : (A.deeper (envOfC "Rule.weighted" (defScope t_p_Rule_weighted) s.heap.objs.size (cg K "Rule" "weighted") cdv)).units + 64 < cLine := by have := hr.room.un; omega
  have hu2 : (A.deeper (envOfC "Rule.weighted" (defScope t_p_Rule_weighted) s.heap.objs.size (cg K "Rule" "weighted") cdv)).units + 100 < cLine := by have := hr.room.un; omega
  have hu3 : (A.deeper (envOfC "Rule.weighted" (defScope t_p_Rule_weighted) s.heap.objs.size (cg K "Rule" "weighted") cdv)).units + 65 < cLine := by have := hr.room.un; omega
  exact (pst_cons (pst_expr (px_call G_p_require_base (hr.le (by decide)) tk (kb_p_require_base_1 F_p_require_base) h.g_p_require_base F_p_require_base.kp (pxa_cons (px_var 1) pxa_nil))) (pst_cons (pst_expr (px_call G_p_require_modulus (hr.le (by decide)) tk (kb_p_require_modulus_1 F_p_require_modulus) h.g_p_require_modulus F_p_require_modulus.kp (pxa_cons (px_var 2) pxa_nil))) (pst_cons (pst_expr (px_call G_p_require_weights (hr.le (by decide)) tk (kb_p_require_weights_1 F_p_require_weights) h.g_p_require_weights F_p_require_weights.kp (pxa_cons (px_var 3) pxa_nil))) (pst_cons (pst_expr (px_call G_p_require_remainder (hr.le (by decide)) tk (kb_p_require_remainder_2 F_p_require_remainder) h.g_p_require_remainder F_p_require_remainder.kp (pxa_cons (px_var 4) (pxa_cons (px_var 2) pxa_nil)))) (pst_one (pst_ret (px_makeV (i := 0) (n := 3) (m0 := 3) h.c_p_Rule h.mk_p_Rule G_p_Rule___init__ (hr.le (by decide)) tk (kbs_p_Rule___init___3 F_p_Rule___init__) (by intros; simp [*]) (pxa_cons (px_var 2) (pxa_cons (px_fz (px_call G_p_weighted_rows (hr.le (by decide)) tk (kb_p_weighted_rows_3 F_p_weighted_rows) h.g_p_weighted_rows F_p_weighted_rows.kp (pxa_cons (px_var 1) (pxa_cons (px_var 2) (pxa_cons (px_var 3) pxa_nil))))) (pxa_cons (px_var 4) pxa_nil))))))))))
theorem sc_p_Rule_modulus : FnScope ["self"] ["self"] (defScope t_p_Rule_modulus) := ⟨rfl, rfl, rfl, by decide +kernel, rfl, by decide +kernel, by decide +kernel⟩
theorem ok_p_Rule_modulus (h : Ft K mg) {fd : FuncData} (Fd : Fun_p_Rule_modulus K fd) : FnG P w K mg base 1 (pg K "Rule" "modulus") fd ["self"] (spP K fr_p_Rule_modulus) := by
  show FnG P w K mg base (0 + 1) (pg K "Rule" "modulus") fd ["self"] (spP K (runP ["self"].length ["self"].length m_p_Rule_modulus))
  refine fn_pure (N := ["self"]) (ps := ["self"]) (k := 0) (m := m_p_Rule_modulus) Fd sc_p_Rule_modulus ?_
  intro cdv A outer s H E hr tk hp
  have nd := sc_p_Rule_modulus.nd
  have hg := hr.grd
  have hu : (A.deeper (envOfC "Rule.modulus" (defScope t_p_Rule_modulus) s.heap.objs.size (pg K "Rule" "modulus") cdv)).units + 64 < cLine := by have := hr.room.un; omega
  have hu2 : (A.deeper (envOfC "Rule.modulus" (defScope t_p_Rule_modulus) s.heap.objs.size (pg K "Rule" "modulus") cdv)).units + 100 < cLine := by have := hr.room.un; omega
  have hu3 : (A.deeper (envOfC "Rule.modulus" (defScope t_p_Rule_modulus) s.heap.objs.size (pg K "Rule" "modulus") cdv)).units + 65 < cLine := by have := hr.room.un; omega
  exact (pst_one (pst_ret (px_fld h.na_p_Rule_divisor (px_var 0))))
theorem sc_p_Rule_rows : FnScope ["self"] ["self"] (defScope t_p_Rule_rows) := ⟨rfl, rfl, rfl, by decide +kernel, rfl, by decide +kernel, by decide +kernel⟩
theorem ok_p_Rule_rows (h : Ft K mg) {fd : FuncData} (Fd : Fun_p_Rule_rows K fd) : FnG P w K mg base 1 (pg K "Rule" "rows") fd ["self"] (spP K fr_p_Rule_rows) := by
  show FnG P w K mg base (0 + 1) (pg K "Rule" "rows") fd ["self"] (spP K (runP ["self"].length ["self"].length m_p_Rule_rows))
  refine fn_pure (N := ["self"]) (ps := ["self"]) (k := 0) (m := m_p_Rule_rows) Fd sc_p_Rule_rows ?_
  intro cdv A outer s H E hr tk hp
  have nd := sc_p_Rule_rows.nd
  have hg := hr.grd
  have hu : (A.deeper (envOfC "Rule.rows" (defScope t_p_Rule_rows) s.heap.objs.size (pg K "Rule" "rows") cdv)).units + 64 < cLine := by have := hr.room.un; omega
  have hu2 : (A.deeper (envOfC "Rule.rows" (defScope t_p_Rule_rows) s.heap.objs.size (pg K "Rule" "rows") cdv)).units + 100 < cLine := by have := hr.room.un; omega
  have hu3 : (A.deeper (envOfC "Rule.rows" (defScope t_p_Rule_rows) s.heap.objs.size (pg K "Rule" "rows") cdv)).units + 65 < cLine := by have := hr.room.un; omega
  exact (pst_one (pst_ret (px_fld h.na_p_Rule_lines (px_var 0))))
theorem sc_p_Rule_remainder : FnScope ["self"] ["self"] (defScope t_p_Rule_remainder) := ⟨rfl, rfl, rfl, by decide +kernel, rfl, by decide +kernel, by decide +kernel⟩
theorem ok_p_Rule_remainder (h : Ft K mg) {fd : FuncData} (Fd : Fun_p_Rule_remainder K fd) : FnG P w K mg base 1 (pg K "Rule" "remainder") fd ["self"] (spP K fr_p_Rule_remainder) := by
  show FnG P w K mg base (0 + 1) (pg K "Rule" "remainder") fd ["self"] (spP K (runP ["self"].length ["self"].length m_p_Rule_remainder))
  refine fn_pure (N := ["self"]) (ps := ["self"]) (k := 0) (m := m_p_Rule_remainder) Fd sc_p_Rule_remainder ?_
  intro cdv A outer s H E hr tk hp
  have nd := sc_p_Rule_remainder.nd
  have hg := hr.grd
  have hu : (A.deeper (envOfC "Rule.remainder" (defScope t_p_Rule_remainder) s.heap.objs.size (pg K "Rule" "remainder") cdv)).units + 64 < cLine := by have := hr.room.un; omega
  have hu2 : (A.deeper (envOfC "Rule.remainder" (defScope t_p_Rule_remainder) s.heap.objs.size (pg K "Rule" "remainder") cdv)).units + 100 < cLine := by have := hr.room.un; omega
  have hu3 : (A.deeper (envOfC "Rule.remainder" (defScope t_p_Rule_remainder) s.heap.objs.size (pg K "Rule" "remainder") cdv)).units + 65 < cLine := by have := hr.room.un; omega
  exact (pst_one (pst_ret (px_fld h.na_p_Rule_wanted (px_var 0))))
theorem sc_p_Rule_base : FnScope ["self"] ["self"] (defScope t_p_Rule_base) := ⟨rfl, rfl, rfl, by decide +kernel, rfl, by decide +kernel, by decide +kernel⟩
theorem ok_p_Rule_base (h : Ft K mg) {fd : FuncData} (Fd : Fun_p_Rule_base K fd) : FnG P w K mg base 1 (pg K "Rule" "base") fd ["self"] (spP K fr_p_Rule_base) := by
  show FnG P w K mg base (0 + 1) (pg K "Rule" "base") fd ["self"] (spP K (runP ["self"].length ["self"].length m_p_Rule_base))
  refine fn_pure (N := ["self"]) (ps := ["self"]) (k := 0) (m := m_p_Rule_base) Fd sc_p_Rule_base ?_
  intro cdv A outer s H E hr tk hp
  have nd := sc_p_Rule_base.nd
  have hg := hr.grd
  have hu : (A.deeper (envOfC "Rule.base" (defScope t_p_Rule_base) s.heap.objs.size (pg K "Rule" "base") cdv)).units + 64 < cLine := by have := hr.room.un; omega
  have hu2 : (A.deeper (envOfC "Rule.base" (defScope t_p_Rule_base) s.heap.objs.size (pg K "Rule" "base") cdv)).units + 100 < cLine := by have := hr.room.un; omega
  have hu3 : (A.deeper (envOfC "Rule.base" (defScope t_p_Rule_base) s.heap.objs.size (pg K "Rule" "base") cdv)).units + 65 < cLine := by have := hr.room.un; omega
  exact (pst_one (pst_ret (px_callB cd_len h.n_len (pxa_cons (px_ix ixd_seq (px_fld h.na_p_Rule_lines (px_var 0)) px_int) pxa_nil))))
theorem sc_p_Rule___len__ : FnScope ["self"] ["self"] (defScope t_p_Rule___len__) := ⟨rfl, rfl, rfl, by decide +kernel, rfl, by decide +kernel, by decide +kernel⟩
theorem ok_p_Rule___len__ (h : Ft K mg) {fd : FuncData} (Fd : Fun_p_Rule___len__ K fd) : FnG P w K mg base 1 (He.ma K (He.ga K "Rule") "__len__") fd ["self"] (spP K fr_p_Rule___len__) := by
  show FnG P w K mg base (0 + 1) (He.ma K (He.ga K "Rule") "__len__") fd ["self"] (spP K (runP ["self"].length ["self"].length m_p_Rule___len__))
  refine fn_pure (N := ["self"]) (ps := ["self"]) (k := 0) (m := m_p_Rule___len__) Fd sc_p_Rule___len__ ?_
  intro cdv A outer s H E hr tk hp
  have nd := sc_p_Rule___len__.nd
  have hg := hr.grd
  have hu : (A.deeper (envOfC "Rule.__len__" (defScope t_p_Rule___len__) s.heap.objs.size (He.ma K (He.ga K "Rule") "__len__") cdv)).units + 64 < cLine := by have := hr.room.un; omega
  have hu2 : (A.deeper (envOfC "Rule.__len__" (defScope t_p_Rule___len__) s.heap.objs.size (He.ma K (He.ga K "Rule") "__len__") cdv)).units + 100 < cLine := by have := hr.room.un; omega
  have hu3 : (A.deeper (envOfC "Rule.__len__" (defScope t_p_Rule___len__) s.heap.objs.size (He.ma K (He.ga K "Rule") "__len__") cdv)).units + 65 < cLine := by have := hr.room.un; omega
  exact (pst_one (pst_ret (px_callB cd_len h.n_len (pxa_cons (px_fld h.na_p_Rule_lines (px_var 0)) pxa_nil))))
theorem sc_p_Rule___eq__ : FnScope ["self", "other"] ["self", "other"] (defScope t_p_Rule___eq__) := ⟨rfl, rfl, rfl, by decide +kernel, rfl, by decide +kernel, by decide +kernel⟩
theorem ok_p_Rule___eq__ (h : Ft K mg) {fd : FuncData} (Fd : Fun_p_Rule___eq__ K fd) : FnG P w K mg base 1 (He.ma K (He.ga K "Rule") "__eq__") fd ["self", "other"] (spP K fr_p_Rule___eq__) := by
  show FnG P w K mg base (0 + 1) (He.ma K (He.ga K "Rule") "__eq__") fd ["self", "other"] (spP K (runP ["self", "other"].length ["self", "other"].length m_p_Rule___eq__))
  refine fn_pure (N := ["self", "other"]) (ps := ["self", "other"]) (k := 0) (m := m_p_Rule___eq__) Fd sc_p_Rule___eq__ ?_
  intro cdv A outer s H E hr tk hp
  have nd := sc_p_Rule___eq__.nd
  have hg := hr.grd
  have hu : (A.deeper (envOfC "Rule.__eq__" (defScope t_p_Rule___eq__) s.heap.objs.size (He.ma K (He.ga K "Rule") "__eq__") cdv)).units + 64 < cLine := by have := hr.room.un; omega
  have hu2 : (A.deeper (envOfC "Rule.__eq__" (defScope t_p_Rule___eq__) s.heap.objs.size (He.ma K (He.ga K "Rule") "__eq__") cdv)).units + 100 < cLine := by have := hr.room.un; omega
  have hu3 : (A.deeper (envOfC "Rule.__eq__" (defScope t_p_Rule___eq__) s.heap.objs.size (He.ma K (He.ga K "Rule") "__eq__") cdv)).units + 65 < cLine := by have := hr.room.un; omega
  exact (pst_cons (pst_if (px_tnot (px_tst (px_isiC h.c_p_Rule h.g_p_Rule h.n_isinstance (px_var 1)))) (pst_one (pst_ret px_bl)) pst_nil) (pst_one (pst_ret (px_andV (px_cmp (opd_eq hu) (px_fld h.na_p_Rule_divisor (px_var 0)) (px_fld h.na_p_Rule_divisor (px_var 1))) (px_andV (px_cmp (opd_eq hu) (px_fld h.na_p_Rule_lines (px_var 0)) (px_fld h.na_p_Rule_lines (px_var 1))) (px_one (px_cmp (opd_eq hu) (px_fld h.na_p_Rule_wanted (px_var 0)) (px_fld h.na_p_Rule_wanted (px_var 1)))))))))
theorem sc_p_number_in_T : FnScope ["word", "most", "sign"] ["word", "most"] (defScope t_p_number_in_T) := ⟨rfl, rfl, rfl, by decide +kernel, rfl, by decide +kernel, by decide +kernel⟩
theorem ok_p_number_in_T (h : Ft K mg) {fd : FuncData} (Fd : Fun_p_number_in_T K fd) : FnG P w K mg base 1 (He.ga K "number_in") fd ["word", "most"] (spP K fr_p_number_in_T) := by
  obtain ⟨_, s_FIGURES⟩ := h.s_FIGURES
  show FnG P w K mg base (0 + 1) (He.ga K "number_in") fd ["word", "most"] (spP K (runP ["word", "most", "sign"].length ["word", "most"].length m_p_number_in_T))
  refine fn_pure (N := ["word", "most", "sign"]) (ps := ["word", "most"]) (k := 0) (m := m_p_number_in_T) Fd sc_p_number_in_T ?_
  intro cdv A outer s H E hr tk hp
  have nd := sc_p_number_in_T.nd
  have hg := hr.grd
  have hu : (A.deeper (envOfC "number_in" (defScope t_p_number_in_T) s.heap.objs.size (He.ga K "number_in") cdv)).units + 64 < cLine := by have := hr.room.un; omega
  have hu2 : (A.deeper (envOfC "number_in" (defScope t_p_number_in_T) s.heap.objs.size (He.ga K "number_in") cdv)).units + 100 < cLine := by have := hr.room.un; omega
  have hu3 : (A.deeper (envOfC "number_in" (defScope t_p_number_in_T) s.heap.objs.size (He.ga K "number_in") cdv)).units + 65 < cLine := by have := hr.room.un; omega
  exact (pst_cons (pst_if (px_w (px_or (px_tnot (px_tchain opd_le opd_le px_int (px_callB cd_len h.n_len (pxa_cons (px_var 0) pxa_nil)) (px_var 1))) (px_or1 (px_tnot (px_tst (px_callB (cd_all rfl) h.n_all (pxa_cons (px_fz (px_lc (own := [("sign", 2)]) rfl nd (pit_strS (px_var 0)) (blkOk_by (N := ["word", "most", "sign"]) (sc := defScope t_p_number_in_T) (by decide +kernel)) (fun _ _ _ _ _ => (pgt_name (i := 2) nd)) (fun _ _ _ _ _ => pts_yes) (fun _ _ _ _ _ => (px_cmp opd_inT (px_var 2) (px_gstr s_FIGURES))))) pxa_nil))))))) (pst_one (pst_ret px_non)) pst_nil) (pst_one (pst_ret (px_if (px_w (px_and (px_tcmp (opd_eq hu) (px_ix ixd_seq (px_var 0) px_int) px_str) (px_and1 (px_tcmp (opd_ne hu) (px_var 0) px_str)))) px_non (px_callTy cd_intT h.n_int (pxa_cons (px_var 0) pxa_nil))))))
theorem sc_p_read_weights_T : FnScope ["text", "found", "index", "word", "number", "low", "high"] ["text"] (defScope t_p_read_weights_T) := ⟨rfl, rfl, rfl, by decide +kernel, rfl, by decide +kernel, by decide +kernel⟩
theorem ok_p_read_weights_T (h : Ft K mg) {fd : FuncData} (Fd : Fun_p_read_weights_T K fd) : FnG P w K mg base 2 (He.ga K "read_weights") fd ["text"] (spP K fr_p_read_weights_T) := by
  obtain ⟨_, F_p_is_integer⟩ := h.d_p_is_integer
  have G_p_is_integer := ok_p_is_integer (P := P) (w := w) (base := base) h F_p_is_integer
  obtain ⟨_, F_p_number_in_T⟩ := h.d_p_number_in_T
  have G_p_number_in_T := ok_p_number_in_T (P := P) (w := w) (base := base) h F_p_number_in_T
  obtain ⟨_, i_GREATEST_BASE⟩ := h.i_GREATEST_BASE
  obtain ⟨_, i_GREATEST_MODULUS⟩ := h.i_GREATEST_MODULUS
  obtain ⟨_, i_HEAD⟩ := h.i_HEAD
  obtain ⟨_, i_MOST_FIGURES⟩ := h.i_MOST_FIGURES
  obtain ⟨_, i_MOST_PLACES⟩ := h.i_MOST_PLACES
  show FnG P w K mg base (1 + 1) (He.ga K "read_weights") fd ["text"] (spP K (runP ["text", "found", "index", "word", "number", "low", "high"].length ["text"].length m_p_read_weights_T))
  refine fn_pure (N := ["text", "found", "index", "word", "number", "low", "high"]) (ps := ["text"]) (k := 1) (m := m_p_read_weights_T) Fd sc_p_read_weights_T ?_
  intro cdv A outer s H E hr tk hp
  have nd := sc_p_read_weights_T.nd
  have hg := hr.grd
  have hu : (A.deeper (envOfC "read_weights" (defScope t_p_read_weights_T) s.heap.objs.size (He.ga K "read_weights") cdv)).units + 64 < cLine := by have := hr.room.un; omega
  have hu2 : (A.deeper (envOfC "read_weights" (defScope t_p_read_weights_T) s.heap.objs.size (He.ga K "read_weights") cdv)).units + 100 < cLine := by have := hr.room.un; omega
  have hu3 : (A.deeper (envOfC "read_weights" (defScope t_p_read_weights_T) s.heap.objs.size (He.ga K "read_weights") cdv)).units + 65 < cLine := by have := hr.room.un; omega
  exact (pst_cons (pst_set (i := 1) nd (px_lst pxa_nil)) (pst_cons (pst_for hp rfl (pit_enum h.n_enumerate (pxa_cons (px_fz (px_split (px_var 0) px_str)) pxa_nil)) (pgt_tup rfl (pgts_cons (pgt_name (i := 2) nd) (pgts_cons (pgt_name (i := 3) nd) pgts_nil))) (psl_fgt [2, 3, 4, 5, 6] (pst_cons (pst_set (i := 4) nd (px_fz (px_call G_p_number_in_T (hr.le (by decide)) tk (kb_p_number_in_T_2 F_p_number_in_T) h.g_p_number_in_T F_p_number_in_T.kp (pxa_cons (px_var 3) (pxa_cons (px_gint i_MOST_FIGURES) pxa_nil))))) (pst_cons (pst_if (px_w (px_or (px_tcmp opd_is (px_var 4) px_non) (px_or1 (px_tcmp (opd_eq hu) (px_var 2) (px_bin opd_add (px_gint i_HEAD) (px_gint i_MOST_PLACES)))))) (pst_one (pst_frz 1 (pst_ret (px_tup (pxa_cons (px_var 1) (pxa_cons (px_var 2) pxa_nil)))))) pst_nil) (pst_cons (pst_unp (px_if (px_tcmp opd_lt (px_var 2) px_int) (px_tup (pxa_cons px_int (pxa_cons (px_ix ixd_seq (px_fz (px_lst (pxa_cons (px_gint i_GREATEST_BASE) (pxa_cons (px_gint i_GREATEST_MODULUS) pxa_nil)))) (px_var 2)) pxa_nil))) (px_tup (pxa_cons px_int (pxa_cons (px_bin opd_sub (px_ixO (i := 1) px_int) px_int) pxa_nil)))) (pgt_tup rfl (pgts_cons (pgt_name (i := 5) nd) (pgts_cons (pgt_name (i := 6) nd) pgts_nil)))) (pst_cons (pst_if (px_tnot (px_tst (px_fz (px_call G_p_is_integer (hr.le (by decide)) tk (kb_p_is_integer_3 F_p_is_integer) h.g_p_is_integer F_p_is_integer.kp (pxa_cons (px_var 4) (pxa_cons (px_var 5) (pxa_cons (px_var 6) pxa_nil))))))) (pst_one (pst_frz 1 (pst_ret (px_tup (pxa_cons (px_var 1) (pxa_cons (px_var 2) pxa_nil)))))) pst_nil) (pst_one (pst_expr (px_app (i := 1) (px_var 4)))))))))) (pst_one (pst_frz 1 (pst_ret (px_tup (pxa_cons (px_var 1) (pxa_cons (px_if (px_tcmp opd_gt (px_callB cd_len h.n_len (pxa_cons (px_var 1) pxa_nil)) (px_gint i_HEAD)) px_non (px_callB cd_len h.n_len (pxa_cons (px_var 1) pxa_nil))) pxa_nil))))))))
theorem sc_p_rule_of_numbers : FnScope ["numbers", "base", "modulus", "remainder", "weights"] ["numbers"] (defScope t_p_rule_of_numbers) := ⟨rfl, rfl, rfl, by decide +kernel, rfl, by decide +kernel, by decide +kernel⟩
theorem ok_p_rule_of_numbers (h : Ft K mg) {fd : FuncData} (Fd : Fun_p_rule_of_numbers K fd) : FnG P w K mg base 7 (He.ga K "rule_of_numbers") fd ["numbers"] (spP K fr_p_rule_of_numbers) := by
  obtain ⟨_, F_p_Rule_weighted⟩ := h.d_p_Rule_weighted
  have G_p_Rule_weighted := ok_p_Rule_weighted (P := P) (w := w) (base := base) h F_p_Rule_weighted
  show FnG P w K mg base (6 + 1) (He.ga K "rule_of_numbers") fd ["numbers"] (spP K (runP ["numbers", "base", "modulus", "remainder", "weights"].length ["numbers"].length m_p_rule_of_numbers))
  refine fn_pure (N := ["numbers", "base", "modulus", "remainder", "weights"]) (ps := ["numbers"]) (k := 6) (m := m_p_rule_of_numbers) Fd sc_p_rule_of_numbers ?_
  intro cdv A outer s H E hr tk hp
  have nd := sc_p_rule_of_numbers.nd
  have hg := hr.grd
  have hu : (A.deeper (envOfC "rule_of_numbers" (defScope t_p_rule_of_numbers) s.heap.objs.size (He.ga K "rule_of_numbers") cdv)).units + 64 < cLine := by have := hr.room.un; omega
  have hu2 : (A.deeper (envOfC "rule_of_numbers" (defScope t_p_rule_of_numbers) s.heap.objs.size (He.ga K "rule_of_numbers") cdv)).units + 100 < cLine := by have := hr.room.un; omega
  have hu3 : (A.deeper (envOfC "rule_of_numbers" (defScope t_p_rule_of_numbers) s.heap.objs.size (He.ga K "rule_of_numbers") cdv)).units + 65 < cLine := by have := hr.room.un; omega
  exact (pst_cons (pst_star3 (i1 := 1) (i2 := 2) (i3 := 3) (j := 4) rfl nd (px_var 0)) (psl_frz 4 (pst_one (pst_ret (px_cm (n := 4) h.cr_p_Rule h.cm_p_Rule_weighted G_p_Rule_weighted (hr.le (by decide)) tk (kb_p_Rule_weighted_5 F_p_Rule_weighted) h.g_p_Rule (pxa_cons (px_var 1) (pxa_cons (px_var 2) (pxa_cons (px_callTy cd_tuple h.n_tuple (pxa_cons (px_var 4) pxa_nil)) (pxa_cons (px_var 3) pxa_nil)))) pxk_nil)))))
theorem sc_p_format_weights : FnScope ["base", "modulus", "weights", "remainder", "numbers", "weight", "number"] ["base", "modulus", "weights", "remainder"] (defScope t_p_format_weights) := ⟨rfl, rfl, rfl, by decide +kernel, rfl, by decide +kernel, by decide +kernel⟩
theorem ok_p_format_weights (h : Ft K mg) {fd : FuncData} (Fd : Fun_p_format_weights K fd) : FnG P w K mg base 3 (He.ga K "format_weights") fd ["base", "modulus", "weights", "remainder"] (spP K fr_p_format_weights) := by
  obtain ⟨_, F_p_require_base⟩ := h.d_p_require_base
  have G_p_require_base := ok_p_require_base (P := P) (w := w) (base := base) h F_p_require_base
  obtain ⟨_, F_p_require_modulus⟩ := h.d_p_require_modulus
  have G_p_require_modulus := ok_p_require_modulus (P := P) (w := w) (base := base) h F_p_require_modulus
  obtain ⟨_, F_p_require_remainder⟩ := h.d_p_require_remainder
  have G_p_require_remainder := ok_p_require_remainder (P := P) (w := w) (base := base) h F_p_require_remainder
  obtain ⟨_, F_p_require_weights⟩ := h.d_p_require_weights
  have G_p_require_weights := ok_p_require_weights (P := P) (w := w) (base := base) h F_p_require_weights
  show FnG P w K mg base (2 + 1) (He.ga K "format_weights") fd ["base", "modulus", "weights", "remainder"] (spP K (runP ["base", "modulus", "weights", "remainder", "numbers", "weight", "number"].length ["base", "modulus", "weights", "remainder"].length m_p_format_weights))
  refine fn_pure (N := ["base", "modulus", "weights", "remainder", "numbers", "weight", "number"]) (ps := ["base", "modulus", "weights", "remainder"]) (k := 2) (m := m_p_format_weights) Fd sc_p_format_weights ?_
  intro cdv A outer s H E hr tk hp
  have nd := sc_p_format_weights.nd
  have hg := hr.grd
  have hu : (A.deeper (envOfC "format_weights" (defScope t_p_format_weights) s.heap.objs.size (He.ga K "format_weights") cdv)).units + 64 < cLine := by have := hr.room.un; omega
  have hu2 : (A.deeper (envOfC "format_weights" (defScope t_p_format_weights) s.heap.objs.size (He.ga K "format_weights") cdv)).units + 100 < cLine := by have := hr.room.un; omega
  have hu3 : (A.deeper (envOfC "format_weights" (defScope t_p_format_weights) s.heap.objs.size (He.ga K "format_weights") cdv)).units + 65 < cLine := by have := hr.room.un; omega
  exact (pst_cons (pst_expr (px_call G_p_require_base (hr.le (by decide)) tk (kb_p_require_base_1 F_p_require_base) h.g_p_require_base F_p_require_base.kp (pxa_cons (px_var 0) pxa_nil))) (pst_cons (pst_expr (px_call G_p_require_modulus (hr.le (by decide)) tk (kb_p_require_modulus_1 F_p_require_modulus) h.g_p_require_modulus F_p_require_modulus.kp (pxa_cons (px_var 1) pxa_nil))) (pst_cons (pst_expr (px_call G_p_require_weights (hr.le (by decide)) tk (kb_p_require_weights_1 F_p_require_weights) h.g_p_require_weights F_p_require_weights.kp (pxa_cons (px_var 2) pxa_nil))) (pst_cons (pst_expr (px_call G_p_require_remainder (hr.le (by decide)) tk (kb_p_require_remainder_2 F_p_require_remainder) h.g_p_require_remainder F_p_require_remainder.kp (pxa_cons (px_var 3) (pxa_cons (px_var 1) pxa_nil)))) (pst_cons (pst_set (i := 4) nd (px_bin opd_add (px_fz (px_lst (pxa_cons (px_var 0) (pxa_cons (px_var 1) (pxa_cons (px_var 3) pxa_nil))))) (px_fz (px_lc (own := [("weight", 5)]) rfl nd (pit_any (px_var 2)) (blkOk_by (N := ["base", "modulus", "weights", "remainder", "numbers", "weight", "number"]) (sc := defScope t_p_format_weights) (by decide +kernel)) (fun _ _ _ _ _ => (pgt_name (i := 5) nd)) (fun _ _ _ _ _ => pts_yes) (fun _ _ _ _ _ => (px_bin opd_mod (px_var 5) (px_var 1))))))) (pst_one (pst_ret (px_join px_str (px_fz (px_lc (own := [("number", 6)]) rfl nd (pit_any (px_var 4)) (blkOk_by (N := ["base", "modulus", "weights", "remainder", "numbers", "weight", "number"]) (sc := defScope t_p_format_weights) (by decide +kernel)) (fun _ _ _ _ _ => (pgt_name (i := 6) nd)) (fun _ _ _ _ _ => pts_yes) (fun _ _ _ _ _ => (px_callTy cd_str h.n_str (pxa_cons (px_var 6) pxa_nil)))))))))))))
theorem sc_p_parse_weights : FnScope ["text", "numbers", "fault"] ["text"] (defScope t_p_parse_weights) := ⟨rfl, rfl, rfl, by decide +kernel, rfl, by decide +kernel, by decide +kernel⟩
theorem ok_p_parse_weights (h : Ft K mg) {fd : FuncData} (Fd : Fun_p_parse_weights K fd) : FnG P w K mg base 8 (He.ga K "parse_weights") fd ["text"] (spP K fr_p_parse_weights) := by
  obtain ⟨_, F_p_read_weights_T⟩ := h.d_p_read_weights_T
  have G_p_read_weights_T := ok_p_read_weights_T (P := P) (w := w) (base := base) h F_p_read_weights_T
  obtain ⟨_, F_p_rule_of_numbers⟩ := h.d_p_rule_of_numbers
  have G_p_rule_of_numbers := ok_p_rule_of_numbers (P := P) (w := w) (base := base) h F_p_rule_of_numbers
  show FnG P w K mg base (7 + 1) (He.ga K "parse_weights") fd ["text"] (spP K (runP ["text", "numbers", "fault"].length ["text"].length m_p_parse_weights))
  refine fn_pure (N := ["text", "numbers", "fault"]) (ps := ["text"]) (k := 7) (m := m_p_parse_weights) Fd sc_p_parse_weights ?_
  intro cdv A outer s H E hr tk hp
  have nd := sc_p_parse_weights.nd
  have hg := hr.grd
  have hu : (A.deeper (envOfC "parse_weights" (defScope t_p_parse_weights) s.heap.objs.size (He.ga K "parse_weights") cdv)).units + 64 < cLine := by have := hr.room.un; omega
  have hu2 : (A.deeper (envOfC "parse_weights" (defScope t_p_parse_weights) s.heap.objs.size (He.ga K "parse_weights") cdv)).units + 100 < cLine := by have := hr.room.un; omega
  have hu3 : (A.deeper (envOfC "parse_weights" (defScope t_p_parse_weights) s.heap.objs.size (He.ga K "parse_weights") cdv)).units + 65 < cLine := by have := hr.room.un; omega
  exact (pst_cons (pst_if (px_tnot (px_tst (px_isiT h.n_isinstance h.n_str (px_var 0)))) (pst_one pst_stuck) pst_nil) (pst_cons (pst_unp (px_fz (px_call G_p_read_weights_T (hr.le (by decide)) tk (kb_p_read_weights_T_1 F_p_read_weights_T) h.g_p_read_weights_T F_p_read_weights_T.kp (pxa_cons (px_var 0) pxa_nil))) (pgt_tup rfl (pgts_cons (pgt_name (i := 1) nd) (pgts_cons (pgt_name (i := 2) nd) pgts_nil)))) (pst_cons (pst_if (px_tcmp opd_isnot (px_var 2) px_non) (pst_one pst_stuck) pst_nil) (pst_one (pst_ret (px_call G_p_rule_of_numbers (hr.le (by decide)) tk (kb_p_rule_of_numbers_1 F_p_rule_of_numbers) h.g_p_rule_of_numbers F_p_rule_of_numbers.kp (pxa_cons (px_var 1) pxa_nil)))))))
theorem sc_law_purse : FnScope ["script", "k", "cell"] ["script", "k"] (defScope t_law_purse) := ⟨rfl, rfl, rfl, by decide +kernel, rfl, by decide +kernel, by decide +kernel⟩
theorem ok_law_purse (h : Ft K mg) {fd : FuncData} (Fd : Fun_law_purse K fd) : FnG P w K mg base 1 (He.ga K "_law_purse") fd ["script", "k"] (spP K fr_law_purse) := by
  show FnG P w K mg base (0 + 1) (He.ga K "_law_purse") fd ["script", "k"] (spP K (runP ["script", "k", "cell"].length ["script", "k"].length m_law_purse))
  refine fn_pure (N := ["script", "k", "cell"]) (ps := ["script", "k"]) (k := 0) (m := m_law_purse) Fd sc_law_purse ?_
  intro cdv A outer s H E hr tk hp
  have nd := sc_law_purse.nd
  have hg := hr.grd
  have hu : (A.deeper (envOfC "_law_purse" (defScope t_law_purse) s.heap.objs.size (He.ga K "_law_purse") cdv)).units + 64 < cLine := by have := hr.room.un; omega
  have hu2 : (A.deeper (envOfC "_law_purse" (defScope t_law_purse) s.heap.objs.size (He.ga K "_law_purse") cdv)).units + 100 < cLine := by have := hr.room.un; omega
  have hu3 : (A.deeper (envOfC "_law_purse" (defScope t_law_purse) s.heap.objs.size (He.ga K "_law_purse") cdv)).units + 65 < cLine := by have := hr.room.un; omega
  exact (pst_cons (pst_set (i := 2) nd (px_if (px_tcmp opd_lt (px_var 1) (px_callB cd_len h.n_len (pxa_cons (px_var 0) pxa_nil))) (px_ix ixd_seq (px_var 0) (px_var 1)) px_int)) (pst_one (pst_ret (px_lst (pxa_cons (px_callB (cd_max2 rfl) h.n_max (pxa_cons px_int (pxa_cons (px_bin opd_sub (px_callB cd_abs h.n_abs (pxa_cons (px_var 2) pxa_nil)) (px_bin opd_pow px_int px_int)) pxa_nil))) (pxa_cons (px_bin opd_add (px_bin opd_add (px_bin opd_mul (px_bin opd_mod (px_var 2) (px_bin opd_add (px_bin opd_pow px_int px_int) px_int)) px_int) (px_bin opd_mul px_int (px_var 1))) px_int) (pxa_cons px_int pxa_nil)))))))
theorem sc_law_coin : FnScope ["purse", "many", "digit", "mixed"] ["purse", "many"] (defScope t_law_coin) := ⟨rfl, rfl, rfl, by decide +kernel, rfl, by decide +kernel, by decide +kernel⟩
theorem ok_law_coin (h : Ft K mg) {fd : FuncData} (Fd : Fun_law_coin K fd) : FnG P w K mg base 1 (He.ga K "_law_coin") fd ["purse", "many"] (spM K [true, false] fm_law_coin) := by
  show FnG P w K mg base (0 + 1) (He.ga K "_law_coin") fd ["purse", "many"] (spM K [true, false] (runM ["purse", "many", "digit", "mixed"].length [true, false] m_law_coin))
  refine fn_mut (N := ["purse", "many", "digit", "mixed"]) (ps := ["purse", "many"]) (k := 0) (J := [0]) (m := m_law_coin) Fd sc_law_coin rfl (jOk (by decide)) ?_
  intro cdv A outer s H E Wx hr tk hp
  have nd := sc_law_coin.nd
  have hg := hr.grd
  have hu : (A.deeper (envOfC "_law_coin" (defScope t_law_coin) s.heap.objs.size (He.ga K "_law_coin") cdv)).units + 64 < cLine := by have := hr.room.un; omega
  have hu2 : (A.deeper (envOfC "_law_coin" (defScope t_law_coin) s.heap.objs.size (He.ga K "_law_coin") cdv)).units + 100 < cLine := by have := hr.room.un; omega
  have hu3 : (A.deeper (envOfC "_law_coin" (defScope t_law_coin) s.heap.objs.size (He.ga K "_law_coin") cdv)).units + 65 < cLine := by have := hr.room.un; omega
  exact (pst_cons (pst_if (px_tcmp opd_gt (px_ixO (i := 0) px_int) px_int) (pst_cons (pst_set (i := 2) nd (px_bin opd_mod (px_ixO (i := 0) px_int) (px_var 1))) (pst_cons (pst_setIx (i := 0) (px_bin opd_fdiv (px_ixO (i := 0) px_int) (px_var 1)) px_int) (pst_one (pst_ret (px_var 2))))) pst_nil) (pst_cons (pst_setIx (i := 0) (px_bin opd_add (px_ixO (i := 0) px_int) px_int) px_int) (pst_cons (pst_set (i := 3) nd (px_bin opd_mod (px_bin opd_pow (px_bin opd_add (px_ixO (i := 0) px_int) (px_bin opd_mul px_int (px_ixO (i := 0) px_int))) px_int) (px_bin opd_add (px_bin opd_pow px_int px_int) px_int))) (pst_cons (pst_set (i := 3) nd (px_bin opd_mod (px_bin opd_pow (px_bin opd_add (px_var 3) (px_bin opd_mul px_int (px_ixO (i := 0) px_int))) px_int) (px_bin opd_add (px_bin opd_pow px_int px_int) px_int))) (pst_one (pst_ret (px_bin opd_mod (px_bin opd_fdiv (px_var 3) px_int) (px_var 1))))))))
theorem sc_law_numbers : FnScope ["purse", "wide", "most", "found", "turn", "some"] ["purse"] (defScope t_law_numbers) := ⟨rfl, rfl, rfl, by decide +kernel, rfl, by decide +kernel, by decide +kernel⟩
theorem ok_law_numbers (h : Ft K mg) {fd : FuncData} (Fd : Fun_law_numbers K fd) : FnG P w K mg base 2 (He.ga K "_law_numbers") fd ["purse"] (spM K [true] fm_law_numbers) := by
  obtain ⟨_, F_law_coin⟩ := h.d_law_coin
  have G_law_coin := ok_law_coin (P := P) (w := w) (base := base) h F_law_coin
  show FnG P w K mg base (1 + 1) (He.ga K "_law_numbers") fd ["purse"] (spM K [true] (runM ["purse", "wide", "most", "found", "turn", "some"].length [true] m_law_numbers))
  refine fn_mut (N := ["purse", "wide", "most", "found", "turn", "some"]) (ps := ["purse"]) (k := 1) (J := [0]) (m := m_law_numbers) Fd sc_law_numbers rfl (jOk (by decide)) ?_
  intro cdv A outer s H E Wx hr tk hp
  have nd := sc_law_numbers.nd
  have hg := hr.grd
  have hu : (A.deeper (envOfC "_law_numbers" (defScope t_law_numbers) s.heap.objs.size (He.ga K "_law_numbers") cdv)).units + 64 < cLine := by have := hr.room.un; omega
  have hu2 : (A.deeper (envOfC "_law_numbers" (defScope t_law_numbers) s.heap.objs.size (He.ga K "_law_numbers") cdv)).units + 100 < cLine := by have := hr.room.un; omega
  have hu3 : (A.deeper (envOfC "_law_numbers" (defScope t_law_numbers) s.heap.objs.size (He.ga K "_law_numbers") cdv)).units + 65 < cLine := by have := hr.room.un; omega
  exact (pst_cons (pst_set (i := 1) nd (px_ix ixd_seq (px_fz (px_lst (pxa_cons px_int (pxa_cons px_int (pxa_cons (px_bin opd_add px_int (px_fz (px_callM G_law_coin (hr.le (by decide)) tk h.g_law_coin F_law_coin.kp (pam_own (i := 0) (pam_val px_int pam_nil)) (bt_law_coin F_law_coin)))) (pxa_cons px_int pxa_nil)))))) (px_fz (px_callM G_law_coin (hr.le (by decide)) tk h.g_law_coin F_law_coin.kp (pam_own (i := 0) (pam_val px_int pam_nil)) (bt_law_coin F_law_coin))))) (pst_cons (pst_set (i := 2) nd (px_ix ixd_seq (px_fz (px_lst (pxa_cons (px_bin opd_add px_int (px_fz (px_callM G_law_coin (hr.le (by decide)) tk h.g_law_coin F_law_coin.kp (pam_own (i := 0) (pam_val px_int pam_nil)) (bt_law_coin F_law_coin)))) (pxa_cons (px_var 1) (pxa_cons (px_bin opd_add px_int (px_fz (px_callM G_law_coin (hr.le (by decide)) tk h.g_law_coin F_law_coin.kp (pam_own (i := 0) (pam_val px_int pam_nil)) (bt_law_coin F_law_coin)))) (pxa_cons px_int pxa_nil)))))) (px_fz (px_callM G_law_coin (hr.le (by decide)) tk h.g_law_coin F_law_coin.kp (pam_own (i := 0) (pam_val px_int pam_nil)) (bt_law_coin F_law_coin))))) (pst_cons (pst_set (i := 3) nd (px_lst pxa_nil)) (pst_cons (pst_for hp rfl (pit_range1 h.n_range (pxa_cons (px_ix ixd_seq (px_fz (px_lst (pxa_cons (px_bin opd_add px_int (px_fz (px_callM G_law_coin (hr.le (by decide)) tk h.g_law_coin F_law_coin.kp (pam_own (i := 0) (pam_val px_int pam_nil)) (bt_law_coin F_law_coin)))) (pxa_cons (px_bin opd_add px_int (px_fz (px_callM G_law_coin (hr.le (by decide)) tk h.g_law_coin F_law_coin.kp (pam_own (i := 0) (pam_val px_int pam_nil)) (bt_law_coin F_law_coin)))) (pxa_cons px_int pxa_nil))))) (px_fz (px_callM G_law_coin (hr.le (by decide)) tk h.g_law_coin F_law_coin.kp (pam_own (i := 0) (pam_val px_int pam_nil)) (bt_law_coin F_law_coin)))) pxa_nil)) (pgt_name (i := 4) nd) (psl_fgt [4] (pst_cons (pst_set (i := 5) nd (px_lst (pxa_cons (px_fz (px_callM G_law_coin (hr.le (by decide)) tk h.g_law_coin F_law_coin.kp (pam_own (i := 0) (pam_val (px_var 2) pam_nil)) (bt_law_coin F_law_coin))) (pxa_cons px_int (pxa_cons px_int (pxa_cons (px_bin opd_sub (px_var 2) px_int) (pxa_cons (px_var 2) (pxa_cons (px_bin opd_sub px_int (px_fz (px_callM G_law_coin (hr.le (by decide)) tk h.g_law_coin F_law_coin.kp (pam_own (i := 0) (pam_val px_int pam_nil)) (bt_law_coin F_law_coin)))) pxa_nil)))))))) (pst_cons (pst_expr (px_app (i := 5) (px_fz (px_callM G_law_coin (hr.le (by decide)) tk h.g_law_coin F_law_coin.kp (pam_own (i := 0) (pam_val (px_bin opd_pow px_int px_int) pam_nil)) (bt_law_coin F_law_coin))))) (pst_one (pst_expr (px_app (i := 3) (px_ixO (i := 5) (px_fz (px_callM G_law_coin (hr.le (by decide)) tk h.g_law_coin F_law_coin.kp (pam_own (i := 0) (pam_val (px_lenO (i := 5) h.n_len) pam_nil)) (bt_law_coin F_law_coin))))))))))) (pst_one (pst_frz 3 (pst_ret (px_tup (pxa_cons (px_var 1) (pxa_cons (px_var 2) (pxa_cons (px_callTy cd_tuple h.n_tuple (pxa_cons (px_var 3) pxa_nil)) (pxa_cons (px_ix ixd_seq (px_fz (px_lst (pxa_cons px_int (pxa_cons (px_fz (px_callM G_law_coin (hr.le (by decide)) tk h.g_law_coin F_law_coin.kp (pam_own (i := 0) (pam_val (px_var 2) pam_nil)) (bt_law_coin F_law_coin))) pxa_nil)))) (px_fz (px_callM G_law_coin (hr.le (by decide)) tk h.g_law_coin F_law_coin.kp (pam_own (i := 0) (pam_val px_int pam_nil)) (bt_law_coin F_law_coin)))) pxa_nil))))))))))))
theorem sc_law_page : FnScope ["numbers", "wide", "most", "loads", "wanted_here", "parts", "load", "part"] ["numbers"] (defScope t_law_page) := ⟨rfl, rfl, rfl, by decide +kernel, rfl, by decide +kernel, by decide +kernel⟩
theorem ok_law_page (h : Ft K mg) {fd : FuncData} (Fd : Fun_law_page K fd) : FnG P w K mg base 1 (He.ga K "_law_page") fd ["numbers"] (spP K fr_law_page) := by
  show FnG P w K mg base (0 + 1) (He.ga K "_law_page") fd ["numbers"] (spP K (runP ["numbers", "wide", "most", "loads", "wanted_here", "parts", "load", "part"].length ["numbers"].length m_law_page))
  refine fn_pure (N := ["numbers", "wide", "most", "loads", "wanted_here", "parts", "load", "part"]) (ps := ["numbers"]) (k := 0) (m := m_law_page) Fd sc_law_page ?_
  intro cdv A outer s H E hr tk hp
  have nd := sc_law_page.nd
  have hg := hr.grd
  have hu : (A.deeper (envOfC "_law_page" (defScope t_law_page) s.heap.objs.size (He.ga K "_law_page") cdv)).units + 64 < cLine := by have := hr.room.un; omega
  have hu2 : (A.deeper (envOfC "_law_page" (defScope t_law_page) s.heap.objs.size (He.ga K "_law_page") cdv)).units + 100 < cLine := by have := hr.room.un; omega
  have hu3 : (A.deeper (envOfC "_law_page" (defScope t_law_page) s.heap.objs.size (He.ga K "_law_page") cdv)).units + 65 < cLine := by have := hr.room.un; omega
  exact (pst_cons (pst_unp (px_var 0) (pgt_tup rfl (pgts_cons (pgt_name (i := 1) nd) (pgts_cons (pgt_name (i := 2) nd) (pgts_cons (pgt_name (i := 3) nd) (pgts_cons (pgt_name (i := 4) nd) pgts_nil)))))) (pst_cons (pst_set (i := 5) nd (px_bin opd_add (px_fz (px_lst (pxa_cons (px_var 1) (pxa_cons (px_var 2) (pxa_cons (px_var 4) pxa_nil))))) (px_fz (px_lc (own := [("load", 6)]) rfl nd (pit_any (px_var 3)) (blkOk_by (N := ["numbers", "wide", "most", "loads", "wanted_here", "parts", "load", "part"]) (sc := defScope t_law_page) (by decide +kernel)) (fun _ _ _ _ _ => (pgt_name (i := 6) nd)) (fun _ _ _ _ _ => pts_yes) (fun _ _ _ _ _ => (px_bin opd_mod (px_var 6) (px_var 2))))))) (pst_one (pst_ret (px_join px_str (px_fz (px_lc (own := [("part", 7)]) rfl nd (pit_any (px_var 5)) (blkOk_by (N := ["numbers", "wide", "most", "loads", "wanted_here", "parts", "load", "part"]) (sc := defScope t_law_page) (by decide +kernel)) (fun _ _ _ _ _ => (pgt_name (i := 7) nd)) (fun _ _ _ _ _ => pts_yes) (fun _ _ _ _ _ => (px_callTy cd_str h.n_str (pxa_cons (px_var 7) pxa_nil))))))))))
theorem sc_law_lines : FnScope ["numbers", "wide", "most", "loads", "wanted_here", "found", "load", "digit"] ["numbers"] (defScope t_law_lines) := ⟨rfl, rfl, rfl, by decide +kernel, rfl, by decide +kernel, by decide +kernel⟩
theorem ok_law_lines (h : Ft K mg) {fd : FuncData} (Fd : Fun_law_lines K fd) : FnG P w K mg base 1 (He.ga K "_law_lines") fd ["numbers"] (spP K fr_law_lines) := by
  show FnG P w K mg base (0 + 1) (He.ga K "_law_lines") fd ["numbers"] (spP K (runP ["numbers", "wide", "most", "loads", "wanted_here", "found", "load", "digit"].length ["numbers"].length m_law_lines))
  refine fn_pure (N := ["numbers", "wide", "most", "loads", "wanted_here", "found", "load", "digit"]) (ps := ["numbers"]) (k := 0) (m := m_law_lines) Fd sc_law_lines ?_
  intro cdv A outer s H E hr tk hp
  have nd := sc_law_lines.nd
  have hg := hr.grd
  have hu : (A.deeper (envOfC "_law_lines" (defScope t_law_lines) s.heap.objs.size (He.ga K "_law_lines") cdv)).units + 64 < cLine := by have := hr.room.un; omega
  have hu2 : (A.deeper (envOfC "_law_lines" (defScope t_law_lines) s.heap.objs.size (He.ga K "_law_lines") cdv)).units + 100 < cLine := by have := hr.room.un; omega
  have hu3 : (A.deeper (envOfC "_law_lines" (defScope t_law_lines) s.heap.objs.size (He.ga K "_law_lines") cdv)).units + 65 < cLine := by have := hr.room.un; omega
  exact (pst_cons (pst_unp (px_var 0) (pgt_tup rfl (pgts_cons (pgt_name (i := 1) nd) (pgts_cons (pgt_name (i := 2) nd) (pgts_cons (pgt_name (i := 3) nd) (pgts_cons (pgt_name (i := 4) nd) pgts_nil)))))) (pst_cons (pst_set (i := 5) nd (px_lst pxa_nil)) (pst_cons (pst_for hp rfl (pit_any (px_var 3)) (pgt_name (i := 6) nd) (psl_fgt [6] (pst_one (pst_expr (px_app (i := 5) (px_callTy cd_tuple h.n_tuple (pxa_cons (px_fz (px_lc (own := [("digit", 7)]) rfl nd (pit_range1 h.n_range (pxa_cons (px_var 1) pxa_nil)) (blkOk_by (N := ["numbers", "wide", "most", "loads", "wanted_here", "found", "load", "digit"]) (sc := defScope t_law_lines) (by decide +kernel)) (fun _ _ _ _ _ => (pgt_name (i := 7) nd)) (fun _ _ _ _ _ => pts_yes) (fun _ _ _ _ _ => (px_bin opd_mod (px_bin opd_mul (px_var 6) (px_var 7)) (px_var 2))))) pxa_nil))))))) (pst_one (pst_frz 5 (pst_ret (px_callTy cd_tuple h.n_tuple (pxa_cons (px_var 5) pxa_nil))))))))
theorem sc_law_right : FnScope ["numbers", "wide", "most", "loads", "wanted_here", "page", "due", "kept", "told", "a", "b", "c", "d", "frame", "found", "other"] ["numbers"] (defScope t_law_right) := ⟨rfl, rfl, rfl, by decide +kernel, rfl, by decide +kernel, by decide +kernel⟩
theorem ok_law_right (h : Ft K mg) {fd : FuncData} (Fd : Fun_law_right K fd) : FnG P w K mg base 9 (He.ga K "_law_right") fd ["numbers"] (spP K fr_law_right) := by
  obtain ⟨_, F_p_Rule___eq__⟩ := h.d_p_Rule___eq__
  have G_p_Rule___eq__ := ok_p_Rule___eq__ (P := P) (w := w) (base := base) h F_p_Rule___eq__
  obtain ⟨_, F_p_Rule___init__⟩ := h.d_p_Rule___init__
  have G_p_Rule___init__ := ok_p_Rule___init__ (P := P) (w := w) (base := base) h F_p_Rule___init__
  obtain ⟨_, F_p_Rule___len__⟩ := h.d_p_Rule___len__
  have G_p_Rule___len__ := ok_p_Rule___len__ (P := P) (w := w) (base := base) h F_p_Rule___len__
  obtain ⟨_, F_p_Rule_base⟩ := h.d_p_Rule_base
  have G_p_Rule_base := ok_p_Rule_base (P := P) (w := w) (base := base) h F_p_Rule_base
  obtain ⟨_, F_p_Rule_modulus⟩ := h.d_p_Rule_modulus
  have G_p_Rule_modulus := ok_p_Rule_modulus (P := P) (w := w) (base := base) h F_p_Rule_modulus
  obtain ⟨_, F_p_Rule_remainder⟩ := h.d_p_Rule_remainder
  have G_p_Rule_remainder := ok_p_Rule_remainder (P := P) (w := w) (base := base) h F_p_Rule_remainder
  obtain ⟨_, F_p_Rule_rows⟩ := h.d_p_Rule_rows
  have G_p_Rule_rows := ok_p_Rule_rows (P := P) (w := w) (base := base) h F_p_Rule_rows
  obtain ⟨_, F_p_Rule_weighted⟩ := h.d_p_Rule_weighted
  have G_p_Rule_weighted := ok_p_Rule_weighted (P := P) (w := w) (base := base) h F_p_Rule_weighted
  obtain ⟨_, F_law_lines⟩ := h.d_law_lines
  have G_law_lines := ok_law_lines (P := P) (w := w) (base := base) h F_law_lines
  obtain ⟨_, F_law_page⟩ := h.d_law_page
  have G_law_page := ok_law_page (P := P) (w := w) (base := base) h F_law_page
  obtain ⟨_, F_p_format_weights⟩ := h.d_p_format_weights
  have G_p_format_weights := ok_p_format_weights (P := P) (w := w) (base := base) h F_p_format_weights
  obtain ⟨_, F_p_parse_weights⟩ := h.d_p_parse_weights
  have G_p_parse_weights := ok_p_parse_weights (P := P) (w := w) (base := base) h F_p_parse_weights
  show FnG P w K mg base (8 + 1) (He.ga K "_law_right") fd ["numbers"] (spP K (runP ["numbers", "wide", "most", "loads", "wanted_here", "page", "due", "kept", "told", "a", "b", "c", "d", "frame", "found", "other"].length ["numbers"].length m_law_right))
  refine fn_pure (N := ["numbers", "wide", "most", "loads", "wanted_here", "page", "due", "kept", "told", "a", "b", "c", "d", "frame", "found", "other"]) (ps := ["numbers"]) (k := 8) (m := m_law_right) Fd sc_law_right ?_
  intro cdv A outer s H E hr tk hp
  have nd := sc_law_right.nd
  have hg := hr.grd
  have hu : (A.deeper (envOfC "_law_right" (defScope t_law_right) s.heap.objs.size (He.ga K "_law_right") cdv)).units + 64 < cLine := by have := hr.room.un; omega
  have hu2 : (A.deeper (envOfC "_law_right" (defScope t_law_right) s.heap.objs.size (He.ga K "_law_right") cdv)).units + 100 < cLine := by have := hr.room.un; omega
  have hu3 : (A.deeper (envOfC "_law_right" (defScope t_law_right) s.heap.objs.size (He.ga K "_law_right") cdv)).units + 65 < cLine := by have := hr.room.un; omega
  exact (pst_cons (pst_unp (px_var 0) (pgt_tup rfl (pgts_cons (pgt_name (i := 1) nd) (pgts_cons (pgt_name (i := 2) nd) (pgts_cons (pgt_name (i := 3) nd) (pgts_cons (pgt_name (i := 4) nd) pgts_nil)))))) (pst_cons (pst_set (i := 5) nd (px_fz (px_call G_law_page (hr.le (by decide)) tk (kb_law_page_1 F_law_page) h.g_law_page F_law_page.kp (pxa_cons (px_var 0) pxa_nil)))) (pst_cons (pst_set (i := 6) nd (px_fz (px_call G_law_lines (hr.le (by decide)) tk (kb_law_lines_1 F_law_lines) h.g_law_lines F_law_lines.kp (pxa_cons (px_var 0) pxa_nil)))) (pst_cons (pst_set (i := 7) nd (px_callB (cd_repr hg hu2) h.n_repr (pxa_cons (px_var 0) pxa_nil))) (pst_cons (pst_set (i := 8) nd (px_lst (pxa_cons (px_fz (px_call G_p_format_weights (hr.le (by decide)) tk (kb_p_format_weights_4 F_p_format_weights) h.g_p_format_weights F_p_format_weights.kp (pxa_cons (px_var 1) (pxa_cons (px_var 2) (pxa_cons (px_var 3) (pxa_cons (px_var 4) pxa_nil)))))) pxa_nil))) (pst_cons (pst_unp (px_var 0) (pgt_tup rfl (pgts_cons (pgt_name (i := 9) nd) (pgts_cons (pgt_name (i := 10) nd) (pgts_cons (pgt_name (i := 11) nd) (pgts_cons (pgt_name (i := 12) nd) pgts_nil)))))) (pst_cons (pst_expr (px_app (i := 8) (px_fz (px_callK0 G_p_format_weights (hr.le (by decide)) tk (kb_p_format_weights_0_remainder_weights_modulus_base F_p_format_weights) h.g_p_format_weights F_p_format_weights.kp (pxk_cons (px_var 12) (pxk_cons (px_var 11) (pxk_cons (px_var 10) (pxk_cons (px_var 9) pxk_nil)))))))) (pst_cons (pst_frz 8 (pst_if (px_w (px_or (px_tcmp (opd_ne hu) (px_callB (cd_repr hg hu2) h.n_repr (pxa_cons (px_var 8) pxa_nil)) (px_callB (cd_repr hg hu2) h.n_repr (pxa_cons (px_fz (px_lst (pxa_cons (px_var 5) (pxa_cons (px_var 5) pxa_nil)))) pxa_nil))) (px_or1 (px_tcmp (opd_ne hu) (px_callB (cd_repr hg hu2) h.n_repr (pxa_cons (px_var 0) pxa_nil)) (px_var 7))))) (pst_one (pst_ret px_bl)) pst_nil)) (pst_cons (pst_for hp rfl (pit_any (px_fz (px_lst (pxa_cons (px_fz (px_call G_p_parse_weights (hr.le (by decide)) tk (kb_p_parse_weights_1 F_p_parse_weights) h.g_p_parse_weights F_p_parse_weights.kp (pxa_cons (px_var 5) pxa_nil))) (pxa_cons (px_fz (px_callK0 G_p_parse_weights (hr.le (by decide)) tk (kb_p_parse_weights_0_text F_p_parse_weights) h.g_p_parse_weights F_p_parse_weights.kp (pxk_cons (px_var 5) pxk_nil))) pxa_nil))))) (pgt_name (i := 13) nd) (psl_fgt [13, 14, 15] (pst_cons (pst_set (i := 14) nd (px_fz (px_lst (pxa_cons (px_fz (px_prop h.pr_p_Rule_modulus G_p_Rule_modulus (hr.le (by decide)) (bt_p_Rule_modulus F_p_Rule_modulus) (px_var 13))) (pxa_cons (px_fz (px_prop h.pr_p_Rule_rows G_p_Rule_rows (hr.le (by decide)) (bt_p_Rule_rows F_p_Rule_rows) (px_var 13))) (pxa_cons (px_fz (px_prop h.pr_p_Rule_remainder G_p_Rule_remainder (hr.le (by decide)) (bt_p_Rule_remainder F_p_Rule_remainder) (px_var 13))) (pxa_cons (px_fz (px_prop h.pr_p_Rule_base G_p_Rule_base (hr.le (by decide)) (bt_p_Rule_base F_p_Rule_base) (px_var 13))) (pxa_cons (px_callB (cd_lenI h.ow_p_Rule___len__ G_p_Rule___len__ (hr.le (by decide)) (bt_p_Rule___len__ F_p_Rule___len__)) h.n_len (pxa_cons (px_var 13) pxa_nil)) pxa_nil)))))))) (pst_cons (pst_if (px_tcmp (opd_ne hu) (px_callB (cd_repr hg hu2) h.n_repr (pxa_cons (px_var 14) pxa_nil)) (px_callB (cd_repr hg hu2) h.n_repr (pxa_cons (px_fz (px_lst (pxa_cons (px_var 2) (pxa_cons (px_var 6) (pxa_cons (px_var 4) (pxa_cons (px_var 1) (pxa_cons (px_callB cd_len h.n_len (pxa_cons (px_var 3) pxa_nil)) pxa_nil))))))) pxa_nil))) (pst_one (pst_ret px_bl)) pst_nil) (pst_cons (pst_set (i := 15) nd (px_fz (px_cm (n := 4) h.cr_p_Rule h.cm_p_Rule_weighted G_p_Rule_weighted (hr.le (by decide)) tk (kb_p_Rule_weighted_5 F_p_Rule_weighted) h.g_p_Rule (pxa_cons (px_var 1) (pxa_cons (px_var 2) (pxa_cons (px_var 3) (pxa_cons (px_var 4) pxa_nil)))) pxk_nil))) (pst_one (pst_if (px_w (px_or (px_tnot (px_tcmp (opd_eqI h.sb_p_Rule.1 h.ow_p_Rule___eq__ G_p_Rule___eq__ (hr.le (by decide)) (bt_p_Rule___eq__ F_p_Rule___eq__)) (px_var 13) (px_fz (px_make (n := 3) (m0 := 3) h.c_p_Rule h.mk_p_Rule G_p_Rule___init__ (hr.le (by decide)) tk (kbs_p_Rule___init___3 F_p_Rule___init__) h.g_p_Rule (kbs_len_kbs_p_Rule___init___3) (pxa_cons (px_var 2) (pxa_cons (px_var 6) (pxa_cons (px_var 4) pxa_nil))) pxk_nil)))) (px_or1 (px_tnot (px_tcmp (opd_eqI h.sb_p_Rule.1 h.ow_p_Rule___eq__ G_p_Rule___eq__ (hr.le (by decide)) (bt_p_Rule___eq__ F_p_Rule___eq__)) (px_var 13) (px_var 15)))))) (pst_one (pst_ret px_bl)) pst_nil))))))) (pst_one (pst_ret px_bl)))))))))))
theorem sc_p_law : FnScope ["script", "k", "purse", "turn"] ["script"] (defScope t_p_law) := ⟨rfl, rfl, rfl, by decide +kernel, rfl, by decide +kernel, by decide +kernel⟩
theorem ok_p_law (h : Ft K mg) {fd : FuncData} (Fd : Fun_p_law K fd) : FnG P w K mg base 10 (He.ga K "law") fd ["script"] (spP K fr_p_law) := by
  obtain ⟨_, F_p_Rule___len__⟩ := h.d_p_Rule___len__
  have G_p_Rule___len__ := ok_p_Rule___len__ (P := P) (w := w) (base := base) h F_p_Rule___len__
  obtain ⟨_, F_law_numbers⟩ := h.d_law_numbers
  have G_law_numbers := ok_law_numbers (P := P) (w := w) (base := base) h F_law_numbers
  obtain ⟨_, F_law_purse⟩ := h.d_law_purse
  have G_law_purse := ok_law_purse (P := P) (w := w) (base := base) h F_law_purse
  obtain ⟨_, F_law_right⟩ := h.d_law_right
  have G_law_right := ok_law_right (P := P) (w := w) (base := base) h F_law_right
  obtain ⟨_, F_p_format_weights⟩ := h.d_p_format_weights
  have G_p_format_weights := ok_p_format_weights (P := P) (w := w) (base := base) h F_p_format_weights
  obtain ⟨_, F_p_parse_weights⟩ := h.d_p_parse_weights
  have G_p_parse_weights := ok_p_parse_weights (P := P) (w := w) (base := base) h F_p_parse_weights
  show FnG P w K mg base (9 + 1) (He.ga K "law") fd ["script"] (spP K (runP ["script", "k", "purse", "turn"].length ["script"].length m_p_law))
  refine fn_pure (N := ["script", "k", "purse", "turn"]) (ps := ["script"]) (k := 9) (m := m_p_law) Fd sc_p_law ?_
  intro cdv A outer s H E hr tk hp
  have nd := sc_p_law.nd
  have hg := hr.grd
  have hu : (A.deeper (envOfC "law" (defScope t_p_law) s.heap.objs.size (He.ga K "law") cdv)).units + 64 < cLine := by have := hr.room.un; omega
  have hu2 : (A.deeper (envOfC "law" (defScope t_p_law) s.heap.objs.size (He.ga K "law") cdv)).units + 100 < cLine := by have := hr.room.un; omega
  have hu3 : (A.deeper (envOfC "law" (defScope t_p_law) s.heap.objs.size (He.ga K "law") cdv)).units + 65 < cLine := by have := hr.room.un; omega
  exact (pst_cons (pst_for hp rfl (pit_range1 h.n_range (pxa_cons (px_callB (cd_max2 rfl) h.n_max (pxa_cons px_int (pxa_cons (px_callB (cd_min2 rfl) h.n_min (pxa_cons px_int (pxa_cons (px_callB cd_len h.n_len (pxa_cons (px_var 0) pxa_nil)) pxa_nil))) pxa_nil))) pxa_nil)) (pgt_name (i := 1) nd) (psl_fgt [1, 3] (pst_cons (pst_set (i := 2) nd (px_call G_law_purse (hr.le (by decide)) tk (kb_law_purse_2 F_law_purse) h.g_law_purse F_law_purse.kp (pxa_cons (px_var 0) (pxa_cons (px_var 1) pxa_nil)))) (pst_one (pst_for hp rfl (pit_range1 h.n_range (pxa_cons px_int pxa_nil)) (pgt_name (i := 3) nd) (psl_fgt [3] (pst_one (pst_if (px_tnot (px_tst (px_fz (px_call G_law_right (hr.le (by decide)) tk (kb_law_right_1 F_law_right) h.g_law_right F_law_right.kp (pxa_cons (px_fz (px_callM G_law_numbers (hr.le (by decide)) tk h.g_law_numbers F_law_numbers.kp (pam_own (i := 2) pam_nil) (bt_law_numbers F_law_numbers))) pxa_nil))))) (pst_one (pst_ret px_bl)) pst_nil)))))))) (pst_cons (pst_if (px_w (px_or (px_tnot (px_tst (px_fz (px_call G_law_right (hr.le (by decide)) tk (kb_law_right_1 F_law_right) h.g_law_right F_law_right.kp (pxa_cons (px_tup (pxa_cons px_int (pxa_cons px_int (pxa_cons (px_bin opd_mul (px_tup (pxa_cons px_int pxa_nil)) px_int) (pxa_cons px_int pxa_nil))))) pxa_nil))))) (px_or1 (px_tnot (px_tst (px_fz (px_call G_law_right (hr.le (by decide)) tk (kb_law_right_1 F_law_right) h.g_law_right F_law_right.kp (pxa_cons (px_tup (pxa_cons px_int (pxa_cons px_int (pxa_cons (px_tup (pxa_cons (px_un und_neg px_int) pxa_nil)) (pxa_cons px_int pxa_nil))))) pxa_nil)))))))) (pst_one (pst_ret px_bl)) pst_nil) (pst_one (pst_ret (px_andV (px_cmp (opd_eq hu) (px_fz (px_call G_p_format_weights (hr.le (by decide)) tk (kb_p_format_weights_4 F_p_format_weights) h.g_p_format_weights F_p_format_weights.kp (pxa_cons px_int (pxa_cons px_int (pxa_cons (px_tup (pxa_cons px_int (pxa_cons px_int (pxa_cons px_int pxa_nil)))) (pxa_cons px_int pxa_nil)))))) px_str) (px_one (px_cmp (opd_eq hu) (px_callB (cd_lenI h.ow_p_Rule___len__ G_p_Rule___len__ (hr.le (by decide)) (bt_p_Rule___len__ F_p_Rule___len__)) h.n_len (pxa_cons (px_fz (px_call G_p_parse_weights (hr.le (by decide)) tk (kb_p_parse_weights_1 F_p_parse_weights) h.g_p_parse_weights F_p_parse_weights.kp (pxa_cons px_str pxa_nil))) pxa_nil)) px_int)))))))
end
def d_p_is_integer : He5.DefA := ⟨fun K => (He.ga K "is_integer"), "is_integer", "is_integer", defArgs t_p_is_integer, defBody t_p_is_integer, defScope t_p_is_integer, [], []⟩
def d_p_is_row : He5.DefA := ⟨fun K => (He.ga K "is_row"), "is_row", "is_row", defArgs t_p_is_row, defBody t_p_is_row, defScope t_p_is_row, [], []⟩
def d_p_are_rows : He5.DefA := ⟨fun K => (He.ga K "are_rows"), "are_rows", "are_rows", defArgs t_p_are_rows, defBody t_p_are_rows, defScope t_p_are_rows, [], []⟩
def d_p_require_base : He5.DefA := ⟨fun K => (He.ga K "require_base"), "require_base", "require_base", defArgs t_p_require_base, defBody t_p_require_base, defScope t_p_require_base, [], []⟩
def d_p_require_modulus : He5.DefA := ⟨fun K => (He.ga K "require_modulus"), "require_modulus", "require_modulus", defArgs t_p_require_modulus, defBody t_p_require_modulus, defScope t_p_require_modulus, [], []⟩
def d_p_require_weights : He5.DefA := ⟨fun K => (He.ga K "require_weights"), "require_weights", "require_weights", defArgs t_p_require_weights, defBody t_p_require_weights, defScope t_p_require_weights, [], []⟩
def d_p_require_remainder : He5.DefA := ⟨fun K => (He.ga K "require_remainder"), "require_remainder", "require_remainder", defArgs t_p_require_remainder, defBody t_p_require_remainder, defScope t_p_require_remainder, [], []⟩
def d_p_weighted_rows : He5.DefA := ⟨fun K => (He.ga K "weighted_rows"), "weighted_rows", "weighted_rows", defArgs t_p_weighted_rows, defBody t_p_weighted_rows, defScope t_p_weighted_rows, [], []⟩
def d_p_Rule___init__ : He5.DefA := ⟨fun K => (He.ma K (He.ga K "Rule") "__init__"), "__init__", "Rule.__init__", defArgs t_p_Rule___init__, defBody t_p_Rule___init__, defScope t_p_Rule___init__, [], []⟩
def d_p_Rule_weighted : He5.DefA := ⟨fun K => (cg K "Rule" "weighted"), "weighted", "Rule.weighted", defArgs t_p_Rule_weighted, defBody t_p_Rule_weighted, defScope t_p_Rule_weighted, [.int 0], []⟩
def d_p_Rule_modulus : He5.DefA := ⟨fun K => (pg K "Rule" "modulus"), "modulus", "Rule.modulus", defArgs t_p_Rule_modulus, defBody t_p_Rule_modulus, defScope t_p_Rule_modulus, [], []⟩
def d_p_Rule_rows : He5.DefA := ⟨fun K => (pg K "Rule" "rows"), "rows", "Rule.rows", defArgs t_p_Rule_rows, defBody t_p_Rule_rows, defScope t_p_Rule_rows, [], []⟩
def d_p_Rule_remainder : He5.DefA := ⟨fun K => (pg K "Rule" "remainder"), "remainder", "Rule.remainder", defArgs t_p_Rule_remainder, defBody t_p_Rule_remainder, defScope t_p_Rule_remainder, [], []⟩
def d_p_Rule_base : He5.DefA := ⟨fun K => (pg K "Rule" "base"), "base", "Rule.base", defArgs t_p_Rule_base, defBody t_p_Rule_base, defScope t_p_Rule_base, [], []⟩
def d_p_Rule___len__ : He5.DefA := ⟨fun K => (He.ma K (He.ga K "Rule") "__len__"), "__len__", "Rule.__len__", defArgs t_p_Rule___len__, defBody t_p_Rule___len__, defScope t_p_Rule___len__, [], []⟩
def d_p_Rule___eq__ : He5.DefA := ⟨fun K => (He.ma K (He.ga K "Rule") "__eq__"), "__eq__", "Rule.__eq__", defArgs t_p_Rule___eq__, defBody t_p_Rule___eq__, defScope t_p_Rule___eq__, [], []⟩
def d_p_number_in_T : He5.DefA := ⟨fun K => (He.ga K "number_in"), "number_in", "number_in", defArgs t_p_number_in_T, defBody t_p_number_in_T, defScope t_p_number_in_T, [], []⟩
def d_p_read_weights_T : He5.DefA := ⟨fun K => (He.ga K "read_weights"), "read_weights", "read_weights", defArgs t_p_read_weights_T, defBody t_p_read_weights_T, defScope t_p_read_weights_T, [], []⟩
def d_p_rule_of_numbers : He5.DefA := ⟨fun K => (He.ga K "rule_of_numbers"), "rule_of_numbers", "rule_of_numbers", defArgs t_p_rule_of_numbers, defBody t_p_rule_of_numbers, defScope t_p_rule_of_numbers, [], []⟩
def d_p_format_weights : He5.DefA := ⟨fun K => (He.ga K "format_weights"), "format_weights", "format_weights", defArgs t_p_format_weights, defBody t_p_format_weights, defScope t_p_format_weights, [], []⟩
def d_p_parse_weights : He5.DefA := ⟨fun K => (He.ga K "parse_weights"), "parse_weights", "parse_weights", defArgs t_p_parse_weights, defBody t_p_parse_weights, defScope t_p_parse_weights, [], []⟩
def d_law_purse : He5.DefA := ⟨fun K => (He.ga K "_law_purse"), "_law_purse", "_law_purse", defArgs t_law_purse, defBody t_law_purse, defScope t_law_purse, [], []⟩
def d_law_coin : He5.DefA := ⟨fun K => (He.ga K "_law_coin"), "_law_coin", "_law_coin", defArgs t_law_coin, defBody t_law_coin, defScope t_law_coin, [], []⟩
def d_law_numbers : He5.DefA := ⟨fun K => (He.ga K "_law_numbers"), "_law_numbers", "_law_numbers", defArgs t_law_numbers, defBody t_law_numbers, defScope t_law_numbers, [], []⟩
def d_law_page : He5.DefA := ⟨fun K => (He.ga K "_law_page"), "_law_page", "_law_page", defArgs t_law_page, defBody t_law_page, defScope t_law_page, [], []⟩
def d_law_lines : He5.DefA := ⟨fun K => (He.ga K "_law_lines"), "_law_lines", "_law_lines", defArgs t_law_lines, defBody t_law_lines, defScope t_law_lines, [], []⟩
def d_law_right : He5.DefA := ⟨fun K => (He.ga K "_law_right"), "_law_right", "_law_right", defArgs t_law_right, defBody t_law_right, defScope t_law_right, [], []⟩
def d_p_law : He5.DefA := ⟨fun K => (He.ga K "law"), "law", "law", defArgs t_p_law, defBody t_p_law, defScope t_p_law, [], []⟩
def fn : List He5.DefA := ([d_p_is_integer, d_p_is_row, d_p_are_rows, d_p_require_base, d_p_require_modulus, d_p_require_weights, d_p_require_remainder, d_p_weighted_rows, d_p_Rule___init__, d_p_Rule_weighted, d_p_Rule_modulus, d_p_Rule_rows, d_p_Rule_remainder, d_p_Rule_base, d_p_Rule___len__, d_p_Rule___eq__, d_p_number_in_T, d_p_read_weights_T, d_p_rule_of_numbers, d_p_format_weights, d_p_parse_weights, d_law_purse, d_law_coin, d_law_numbers, d_law_page, d_law_lines, d_law_right, d_p_law] : List He5.DefA)
def fa : List Fq := ([fq (.glo "is_integer"), fq (.glo "is_row"), fq (.glo "are_rows"), fq (.glo "require_base"), fq (.glo "require_modulus"), fq (.glo "require_weights"), fq (.glo "require_remainder"), fq (.glo "weighted_rows"), fq (.glo "number_in"), fq (.glo "read_weights"), fq (.glo "rule_of_numbers"), fq (.glo "format_weights"), fq (.glo "parse_weights"), fq (.glo "_law_purse"), fq (.glo "_law_coin"), fq (.glo "_law_numbers"), fq (.glo "_law_page"), fq (.glo "_law_lines"), fq (.glo "_law_right"), fq (.glo "law"), fq (.glo "InvalidBase"), fq (.exc "InvalidBase"), fq (.glo "InvalidModulus"), fq (.exc "InvalidModulus"), fq (.glo "InvalidRemainder"), fq (.exc "InvalidRemainder"), fq (.glo "InvalidRows"), fq (.exc "InvalidRows"), fq (.glo "InvalidWeights"), fq (.exc "InvalidWeights")] : List Fq) ++ ([fq (.free "abs"), fq (.free "all"), fq (.free "bool"), fq (.free "enumerate"), fq (.free "int"), fq (.free "isinstance"), fq (.free "len"), fq (.free "max"), fq (.free "min"), fq (.free "range"), fq (.free "repr"), fq (.free "str"), fq (.free "tuple"), fq (.int "GREATEST_BASE" 36), fq (.int "GREATEST_MODULUS" 200), fq (.int "HEAD" 3), fq (.int "MOST_FIGURES" 3), fq (.int "MOST_PLACES" 30), fq (.str "FIGURES" "0123456789"), clsB "Rule", cmB "Rule" "weighted", readB "Rule", fq (.glo "Rule"), fq (.mkr "Rule"), fq (.noat "Rule" "divisor"), fq (.noat "Rule" "lines"), fq (.noat "Rule" "wanted"), fq (.meth "Rule" "__eq__"), fq (.meth "Rule" "__len__"), propB "Rule" "base"] : List Fq) ++ ([propB "Rule" "modulus", propB "Rule" "remainder", propB "Rule" "rows", subB "Rule"] : List Fq)
def loose : List Str := (["CheckError", "InvalidBase", "InvalidModulus", "InvalidRows", "InvalidWeights", "InvalidRemainder", "InvalidCode", "InvalidText", "GREATEST_BASE", "GREATEST_MODULUS", "MOST_PLACES", "is_integer", "is_row", "are_rows", "require_base", "require_modulus", "require_weights", "require_remainder", "weighted_rows", "Rule", "is_code", "sum_in", "require_code", "FIGURES", "MOST_FIGURES", "HEAD", "number_in", "read_weights", "rule_of_numbers", "format_weights"] : List Str) ++ (["parse_weights", "_law_purse", "_law_coin", "_law_numbers", "_law_page", "_law_lines", "_law_right"] : List Str)
abbrev R : PySem.W.OpenRow := PySem.W.OpenLaw.row PySem.Challenge.rw_checkdigits_k55_weights_written
abbrev hk : PySem.W.Hook := hookB 6 fa fn
def ob (s : PySem.W.SharedT) : He.AlD := obsBG 6 fa fn (HandSHeadRun.getT s)
theorem ob_eq (s : PySem.W.SharedT) : ob s = hk.obs s.abs := obsBG_eq (HandSHeadRun.getT_eq s)
theorem run (w : World) : HandSHeadRun.RunEq R (PySem.W.view R.prog [41]) hk ob 200000 loose w := by
  intro os
  kernel_rfl
theorem ft_of {K : PySem.W.Frag} {h : Heap} {mg : Str → Option Value} (X : K.In h) (G : h.Ns mainGlobals mg) (c : SaysF fa fn K) : Ft K mg where
  g_p_is_integer := He.glo_ok X G (x := "is_integer") (c.fact 0 (f := fq (.glo "is_integer")) rfl)
  d_p_is_integer := c.def_ 0 (d := d_p_is_integer) rfl
  g_p_is_row := He.glo_ok X G (x := "is_row") (c.fact 1 (f := fq (.glo "is_row")) rfl)
  d_p_is_row := c.def_ 1 (d := d_p_is_row) rfl
  g_p_are_rows := He.glo_ok X G (x := "are_rows") (c.fact 2 (f := fq (.glo "are_rows")) rfl)
  d_p_are_rows := c.def_ 2 (d := d_p_are_rows) rfl
  g_p_require_base := He.glo_ok X G (x := "require_base") (c.fact 3 (f := fq (.glo "require_base")) rfl)
  d_p_require_base := c.def_ 3 (d := d_p_require_base) rfl
  g_p_require_modulus := He.glo_ok X G (x := "require_modulus") (c.fact 4 (f := fq (.glo "require_modulus")) rfl)
  d_p_require_modulus := c.def_ 4 (d := d_p_require_modulus) rfl
  g_p_require_weights := He.glo_ok X G (x := "require_weights") (c.fact 5 (f := fq (.glo "require_weights")) rfl)
  d_p_require_weights := c.def_ 5 (d := d_p_require_weights) rfl
  g_p_require_remainder := He.glo_ok X G (x := "require_remainder") (c.fact 6 (f := fq (.glo "require_remainder")) rfl)
  d_p_require_remainder := c.def_ 6 (d := d_p_require_remainder) rfl
  g_p_weighted_rows := He.glo_ok X G (x := "weighted_rows") (c.fact 7 (f := fq (.glo "weighted_rows")) rfl)
  d_p_weighted_rows := c.def_ 7 (d := d_p_weighted_rows) rfl
  d_p_Rule___init__ := c.def_ 8 (d := d_p_Rule___init__) rfl
  d_p_Rule_weighted := c.def_ 9 (d := d_p_Rule_weighted) rfl
  d_p_Rule_modulus := c.def_ 10 (d := d_p_Rule_modulus) rfl
  d_p_Rule_rows := c.def_ 11 (d := d_p_Rule_rows) rfl
  d_p_Rule_remainder := c.def_ 12 (d := d_p_Rule_remainder) rfl
  d_p_Rule_base := c.def_ 13 (d := d_p_Rule_base) rfl
  d_p_Rule___len__ := c.def_ 14 (d := d_p_Rule___len__) rfl
  d_p_Rule___eq__ := c.def_ 15 (d := d_p_Rule___eq__) rfl
  g_p_number_in_T := He.glo_ok X G (x := "number_in") (c.fact 8 (f := fq (.glo "number_in")) rfl)
  d_p_number_in_T := c.def_ 16 (d := d_p_number_in_T) rfl
  g_p_read_weights_T := He.glo_ok X G (x := "read_weights") (c.fact 9 (f := fq (.glo "read_weights")) rfl)
  d_p_read_weights_T := c.def_ 17 (d := d_p_read_weights_T) rfl
  g_p_rule_of_numbers := He.glo_ok X G (x := "rule_of_numbers") (c.fact 10 (f := fq (.glo "rule_of_numbers")) rfl)
  d_p_rule_of_numbers := c.def_ 18 (d := d_p_rule_of_numbers) rfl
  g_p_format_weights := He.glo_ok X G (x := "format_weights") (c.fact 11 (f := fq (.glo "format_weights")) rfl)
  d_p_format_weights := c.def_ 19 (d := d_p_format_weights) rfl
  g_p_parse_weights := He.glo_ok X G (x := "parse_weights") (c.fact 12 (f := fq (.glo "parse_weights")) rfl)
  d_p_parse_weights := c.def_ 20 (d := d_p_parse_weights) rfl
  g_law_purse := He.glo_ok X G (x := "_law_purse") (c.fact 13 (f := fq (.glo "_law_purse")) rfl)
  d_law_purse := c.def_ 21 (d := d_law_purse) rfl
  g_law_coin := He.glo_ok X G (x := "_law_coin") (c.fact 14 (f := fq (.glo "_law_coin")) rfl)
  d_law_coin := c.def_ 22 (d := d_law_coin) rfl
  g_law_numbers := He.glo_ok X G (x := "_law_numbers") (c.fact 15 (f := fq (.glo "_law_numbers")) rfl)
  d_law_numbers := c.def_ 23 (d := d_law_numbers) rfl
  g_law_page := He.glo_ok X G (x := "_law_page") (c.fact 16 (f := fq (.glo "_law_page")) rfl)
  d_law_page := c.def_ 24 (d := d_law_page) rfl
  g_law_lines := He.glo_ok X G (x := "_law_lines") (c.fact 17 (f := fq (.glo "_law_lines")) rfl)
  d_law_lines := c.def_ 25 (d := d_law_lines) rfl
  g_law_right := He.glo_ok X G (x := "_law_right") (c.fact 18 (f := fq (.glo "_law_right")) rfl)
  d_law_right := c.def_ 26 (d := d_law_right) rfl
  g_p_law := He.glo_ok X G (x := "law") (c.fact 19 (f := fq (.glo "law")) rfl)
  d_p_law := c.def_ 27 (d := d_p_law) rfl
  g_p_InvalidBase := He.glo_ok X G (x := "InvalidBase") (c.fact 20 (f := fq (.glo "InvalidBase")) rfl)
  e_InvalidBase := let z := He.exc_ok (x := "InvalidBase") (c.fact 21 (f := fq (.exc "InvalidBase")) rfl); ⟨z.1, z.2.1, z.2.2.1, z.2.2.2⟩
  g_p_InvalidModulus := He.glo_ok X G (x := "InvalidModulus") (c.fact 22 (f := fq (.glo "InvalidModulus")) rfl)
  e_InvalidModulus := let z := He.exc_ok (x := "InvalidModulus") (c.fact 23 (f := fq (.exc "InvalidModulus")) rfl); ⟨z.1, z.2.1, z.2.2.1, z.2.2.2⟩
  g_p_InvalidRemainder := He.glo_ok X G (x := "InvalidRemainder") (c.fact 24 (f := fq (.glo "InvalidRemainder")) rfl)
  e_InvalidRemainder := let z := He.exc_ok (x := "InvalidRemainder") (c.fact 25 (f := fq (.exc "InvalidRemainder")) rfl); ⟨z.1, z.2.1, z.2.2.1, z.2.2.2⟩
  g_p_InvalidRows := He.glo_ok X G (x := "InvalidRows") (c.fact 26 (f := fq (.glo "InvalidRows")) rfl)
  e_InvalidRows := let z := He.exc_ok (x := "InvalidRows") (c.fact 27 (f := fq (.exc "InvalidRows")) rfl); ⟨z.1, z.2.1, z.2.2.1, z.2.2.2⟩
  g_p_InvalidWeights := He.glo_ok X G (x := "InvalidWeights") (c.fact 28 (f := fq (.glo "InvalidWeights")) rfl)
  e_InvalidWeights := let z := He.exc_ok (x := "InvalidWeights") (c.fact 29 (f := fq (.exc "InvalidWeights")) rfl); ⟨z.1, z.2.1, z.2.2.1, z.2.2.2⟩
  n_abs := He.free_ok X G (x := "abs") (c.fact 30 (f := fq (.free "abs")) rfl)
  n_all := He.free_ok X G (x := "all") (c.fact 31 (f := fq (.free "all")) rfl)
  n_bool := He.free_ok X G (x := "bool") (c.fact 32 (f := fq (.free "bool")) rfl)
  n_enumerate := He.free_ok X G (x := "enumerate") (c.fact 33 (f := fq (.free "enumerate")) rfl)
  n_int := He.free_ok X G (x := "int") (c.fact 34 (f := fq (.free "int")) rfl)
  n_isinstance := He.free_ok X G (x := "isinstance") (c.fact 35 (f := fq (.free "isinstance")) rfl)
  n_len := He.free_ok X G (x := "len") (c.fact 36 (f := fq (.free "len")) rfl)
  n_max := He.free_ok X G (x := "max") (c.fact 37 (f := fq (.free "max")) rfl)
  n_min := He.free_ok X G (x := "min") (c.fact 38 (f := fq (.free "min")) rfl)
  n_range := He.free_ok X G (x := "range") (c.fact 39 (f := fq (.free "range")) rfl)
  n_repr := He.free_ok X G (x := "repr") (c.fact 40 (f := fq (.free "repr")) rfl)
  n_str := He.free_ok X G (x := "str") (c.fact 41 (f := fq (.free "str")) rfl)
  n_tuple := He.free_ok X G (x := "tuple") (c.fact 42 (f := fq (.free "tuple")) rfl)
  i_GREATEST_BASE := He.int_ok X G (x := "GREATEST_BASE") (i := 36) (c.fact 43 (f := fq (.int "GREATEST_BASE" 36)) rfl)
  i_GREATEST_MODULUS := He.int_ok X G (x := "GREATEST_MODULUS") (i := 200) (c.fact 44 (f := fq (.int "GREATEST_MODULUS" 200)) rfl)
  i_HEAD := He.int_ok X G (x := "HEAD") (i := 3) (c.fact 45 (f := fq (.int "HEAD" 3)) rfl)
  i_MOST_FIGURES := He.int_ok X G (x := "MOST_FIGURES") (i := 3) (c.fact 46 (f := fq (.int "MOST_FIGURES" 3)) rfl)
  i_MOST_PLACES := He.int_ok X G (x := "MOST_PLACES") (i := 30) (c.fact 47 (f := fq (.int "MOST_PLACES" 30)) rfl)
  s_FIGURES := He.str_ok X G (x := "FIGURES") (z := "0123456789") (c.fact 48 (f := fq (.str "FIGURES" "0123456789")) rfl)
  c_p_Rule := clsB_ok (c.fact 49 (f := clsB "Rule") rfl)
  cm_p_Rule_weighted := cm_of (c.fact 50 (f := cmB "Rule" "weighted") rfl)
  cr_p_Rule := cread_of (c.fact 51 (f := readB "Rule") rfl)
  g_p_Rule := He.glo_ok X G (show (He.Fa.glo "Rule").ok K = true from (c.fact 52 (f := fq (.glo "Rule")) rfl))
  mk_p_Rule := mkr_of (c.fact 53 (f := fq (.mkr "Rule")) rfl)
  na_p_Rule_divisor := noat_of (c.fact 54 (f := fq (.noat "Rule" "divisor")) rfl)
  na_p_Rule_lines := noat_of (c.fact 55 (f := fq (.noat "Rule" "lines")) rfl)
  na_p_Rule_wanted := noat_of (c.fact 56 (f := fq (.noat "Rule" "wanted")) rfl)
  ow_p_Rule___eq__ := own_of (c.fact 57 (f := fq (.meth "Rule" "__eq__")) rfl)
  ow_p_Rule___len__ := own_of (c.fact 58 (f := fq (.meth "Rule" "__len__")) rfl)
  pr_p_Rule_base := prop_of (c.fact 59 (f := propB "Rule" "base") rfl)
  pr_p_Rule_modulus := prop_of (c.fact 60 (f := propB "Rule" "modulus") rfl)
  pr_p_Rule_remainder := prop_of (c.fact 61 (f := propB "Rule" "remainder") rfl)
  pr_p_Rule_rows := prop_of (c.fact 62 (f := propB "Rule" "rows") rfl)
  sb_p_Rule := sub_of (c.fact 63 (f := subB "Rule") rfl)
theorem bl (K : PySem.W.Frag) (fd : FuncData) (Fd : Fun_p_law K fd) (s : Shared) (v : Value) : BindsTo s fd ⟨[v], []⟩ [("script", v)] :=
  (FunD.bindsA (ps := ["script"]) Fd fun _ _ _ _ _ _ us hl => match us, hl with | [_], _ => rfl) s [v] rfl
end Lw
open PySem PySem.W PySem.Calls PyProof.Rows in
theorem Lw.end_ (good : ∀ ns : List Int, ns.length ≤ 63 → Lw.fr_p_law [.scr ns] = .ok (.val (.bl true))) : PySem.Challenge.rw_checkdigits_k55_weights_written.Holds := by
  w_on; o_law
  refine HandSHeadRun.head_any (r := OpenLaw.row PySem.Challenge.rw_checkdigits_k55_weights_written) (q := view (OpenLaw.row PySem.Challenge.rw_checkdigits_k55_weights_written).prog [41]) (H := Lw.hk) (ob := Lw.ob) (M := 200000) (loose := Lw.loose) (d := HandSHeadRun.topDef (OpenLaw.row PySem.Challenge.rw_checkdigits_k55_weights_written).prog 41) (kwd := []) Lw.ob_eq
    (by kernel_rfl) (fun s => by kernel_rfl) Lw.run (by kernel_rfl) (by kernel_rfl) (by kernel_rfl) (by rfl) (by first | assumption | decide +kernel) (by decide +kernel) ⟨rfl, rfl, rfl, rfl, rfl, by decide +kernel⟩ ?hw ?hc
  case hw => w_witness2
  case hc =>
    refine P.walkG (l := PySem.Challenge.rw_checkdigits_k55_weights_written) (n := 63) (k := 10) (x := "script") rfl (by decide) (by kernel_rfl) ⟨⟨rfl, by decide, by decide⟩, rfl⟩ ?F
    intro w mg fa h Y G hmg0
    obtain ⟨K, KX, c⟩ := Y
    have hmg : mg ("law" : PySem.Str) = some (.ref fa) := by
      have e : (HandSHeadRun.topDef (OpenLaw.row PySem.Challenge.rw_checkdigits_k55_weights_written).prog 41).name = ("law" : PySem.Str) := by kernel_rfl
      rw [← e]
      exact hmg0
    have f := Lw.ft_of KX G c
    have e := hmg.symm.trans f.g_p_law
    cases e
    obtain ⟨fd, Fd⟩ := f.d_p_law
    refine ⟨K, fd, P.spP K Lw.fr_p_law, KX, Lw.bl K fd Fd, fun H a ns hl hS => ?_, fun base _ _ => ?_⟩
    · refine ⟨[], [.scr ns], fun _ z => by simp at z, .cons (.scr (P.hide_nil ▸ hS)) .nil, ?_⟩
      rw [good ns hl]
      intro v W' H' st rl
      obtain ⟨_, q⟩ := rl.pop
      exact q.bl_inv
    · exact Lw.ok_p_law (P := (PySem.Challenge.rw_checkdigits_k55_weights_written).prog) (w := w) (base := base) f Fd
namespace Lw
open PySem PySem.Spec PyProof.Rows L2 P
--V
theorem v_is_integer (i lo hi : Int) : fr_p_is_integer [.int i, .int lo, .int hi] = .ok (.val (.bl (decide (lo ≤ i) && decide (i ≤ hi)))) := by
  by_cases h : lo ≤ i <;> simp [fr_p_is_integer, runP, m_p_is_integer, h]
theorem v_is_integer0 (i : Int) : fr_p_is_integer [.int i, .non, .non] = .ok (.val (.bl true)) := by
  simp [fr_p_is_integer, runP, m_p_is_integer, isiT, tyN, subT, isD]
theorem v_base (i : Int) (h1 : 2 ≤ i) (h2 : i ≤ 36) : fr_p_require_base [.int i] = .ok (.val .non) := by
  simp [fr_p_require_base, runP, m_p_require_base, v_is_integer, h1, h2]
theorem v_modulus (i : Int) (h1 : 2 ≤ i) (h2 : i ≤ 200) : fr_p_require_modulus [.int i] = .ok (.val .non) := by
  simp [fr_p_require_modulus, runP, m_p_require_modulus, v_is_integer, h1, h2]
theorem v_remainder (i m : Int) (h1 : 0 ≤ i) (h2 : i < m) : fr_p_require_remainder [.int i, .int m] = .ok (.val .non) := by
  have : i ≤ m - 1 := by omega
  simp [fr_p_require_remainder, runP, m_p_require_remainder, v_is_integer, h1, this]
structure RV where
  m : Int
  rows : List (List Int)
  r : Int
def rowD (r : List Int) : D := .tup (r.map .int)
def rowsD (rs : List (List Int)) : D := .tup (rs.map rowD)
def ruleD (R : RV) : D := .ins "Rule" ["divisor", "lines", "wanted"] [.int R.m, rowsD R.rows, .int R.r]
def ruleS (R : RV) : Slot := .ownI "Rule" ["divisor", "lines", "wanted"] [.val (.int R.m), .val (rowsD R.rows), .val (.int R.r)]
@[simp] theorem ruleS_fz (R : RV) : (ruleS R).fz = some (ruleD R) := rfl
@[simp] theorem ruleS_unb (R : RV) : (ruleS R).isUnb = false := rfl
@[simp] theorem fld_divisor (R : RV) : fldD "Rule" "divisor" (ruleD R) = some (.int R.m) := rfl
@[simp] theorem fld_lines (R : RV) : fldD "Rule" "lines" (ruleD R) = some (rowsD R.rows) := rfl
@[simp] theorem fld_wanted (R : RV) : fldD "Rule" "wanted" (ruleD R) = some (.int R.r) := rfl
@[simp] theorem insI_rule (R : RV) : insI "Rule" (ruleD R) = true := rfl
@[simp] theorem isiC_rule (R : RV) : isiC "Rule" (ruleD R) = some true := rfl
@[simp] theorem okEq_rule (R : RV) : okEq "Rule" (ruleD R) = true := rfl
def RV.row0 (R : RV) : List Int := R.rows.headD []
def RV.b (R : RV) : Nat := R.row0.length
section
variable {r : List Int} {rs : List (List Int)} {i : Int}
@[simp] theorem isi_row : isiT "tuple" (rowD r) = some true := rfl
@[simp] theorem isi_rows : isiT "tuple" (rowsD rs) = some true := rfl
@[simp] theorem isil_row : isiT "list" (rowD r) = some false := rfl
@[simp] theorem isil_rows : isiT "list" (rowsD rs) = some false := rfl
@[simp] theorem it_row : itA (rowD r) = some (r.map .int) := rfl
@[simp] theorem it_rows : itA (rowsD rs) = some (rs.map rowD) := rfl
@[simp] theorem len_row : lenD [rowD r] = some (.int r.length) := by simp [rowD]
@[simp] theorem len_rows : lenD [rowsD rs] = some (.int rs.length) := by simp [rowsD]
theorem ix_row (h0 : 0 ≤ i) (h : i < r.length) : ixD (rowD r) (.int i) = some (.int (r.getD i.toNat 0)) := by
  unfold rowD
  rw [ixD_t h0 (by simpa using h), List.getElem?_map, List.getD_eq_getElem?_getD]
  have : i.toNat < r.length := by omega
  rw [List.getElem?_eq_getElem this]; rfl
end
structure RV.Ok (R : RV) : Prop where
  m2 : 2 ≤ R.m
  m200 : R.m ≤ 200
  n1 : 1 ≤ R.rows.length
  n30 : R.rows.length ≤ 30
  b2 : 2 ≤ R.b
  b36 : R.b ≤ 36
  len : ∀ row ∈ R.rows, row.length = R.b
  rng : ∀ row ∈ R.rows, ∀ x ∈ row, 0 ≤ x ∧ x < R.m
  r0 : 0 ≤ R.r
  r1 : R.r < R.m
@[simp] theorem v_pmod (R : RV) : fr_p_Rule_modulus [ruleD R] = .ok (.val (.int R.m)) := by
  simp [fr_p_Rule_modulus, runP, m_p_Rule_modulus]
@[simp] theorem v_prows (R : RV) : fr_p_Rule_rows [ruleD R] = .ok (.val (rowsD R.rows)) := by
  simp [fr_p_Rule_rows, runP, m_p_Rule_rows]
@[simp] theorem v_prem (R : RV) : fr_p_Rule_remainder [ruleD R] = .ok (.val (.int R.r)) := by
  simp [fr_p_Rule_remainder, runP, m_p_Rule_remainder]
theorem rows0 {R : RV} (h : 1 ≤ R.rows.length) : ixD (rowsD R.rows) (.int 0) = some (rowD R.row0) := by
  cases e : R.rows with
  | nil => rw [e] at h; simp at h
  | cons r rs => simp [rowsD, e, RV.row0]
theorem v_pbase {R : RV} (h : 1 ≤ R.rows.length) : fr_p_Rule_base [ruleD R] = .ok (.val (.int R.b)) := by
  simp [fr_p_Rule_base, runP, m_p_Rule_base, rows0 h, RV.b]
@[simp] theorem v_plen (R : RV) : fr_p_Rule___len__ [ruleD R] = .ok (.val (.int R.rows.length)) := by
  simp [fr_p_Rule___len__, runP, m_p_Rule___len__]
theorem v_len {R : RV} (h : R.rows.length ≤ 30) : lenI "Rule" fr_p_Rule___len__ [ruleD R] = some (.int R.rows.length) := by
  have : R.rows.length < 9223372036854775808 := by omega
  simp [lenI, this]
theorem allD_map {α : Type} (f : α → Bool) (xs : List α) : allD [.lst ((xs.map f).map D.bl)] = some (.bl (xs.all f)) := by
  rw [allD_l, List.all_map]; rfl
theorem v_is_row (row : List Int) (n m : Int) (hl : row.length ≤ 1000) : fr_p_is_row [rowD row, .int n, .int m] = .ok (.val (.bl (decide ((row.length : Int) = n) && row.all fun x => decide (0 ≤ x) && decide (x ≤ m - 1)))) := by
  have key := lcL_all (vs := [3]) (b := bName 3) (m := lm_p_is_row_1) (ρ := [.val (rowD row), .val (.int n), .val (.int m), .unb]) D.int D.bl (fun x : Int => decide (0 ≤ x) && decide (x ≤ m - 1)) row (by
    intro x hx
    refine ⟨_, rfl, ?_, ?_⟩
    · simp (disch := omega) [-List.map_map, List.getElem?_cons_zero, List.getElem?_cons_succ, withL, Out.fm, P.mkArgs, P.putAll, lm_p_is_row_1, v_is_integer]
    · simp (disch := omega) [-List.map_map, List.getElem?_cons_zero, List.getElem?_cons_succ, withL, Out.fm, P.mkArgs, P.putAll])
  have hl2 : (row.map D.int).length ≤ 16777216 := by rw [List.length_map]; omega
  unfold rowD at *
  by_cases c : (row.length : Int) = n
  · simp (disch := omega) [-List.map_map, List.getElem?_cons_zero, List.getElem?_cons_succ, withL, Out.fm, P.mkArgs, P.putAll, fr_p_is_row, runP, m_p_is_row, c, key, allD_map]
  · simp (disch := omega) [-List.map_map, List.getElem?_cons_zero, List.getElem?_cons_succ, withL, Out.fm, P.mkArgs, P.putAll, fr_p_is_row, runP, m_p_is_row, c, key]
theorem v_are_rows {R : RV} (h : R.Ok) : fr_p_are_rows [rowsD R.rows, .int R.m] = .ok (.val (.bl true)) := by
  obtain ⟨m2, m200, n1, n30, b2, b36, len, rng, r0, r1⟩ := h
  have key := lcL_all (vs := [3]) (b := bName 3) (m := lm_p_are_rows_1) (ρ := [.val (rowsD R.rows), .val (.int R.m), .val (.int R.b), .unb]) rowD D.bl (fun _ => true) R.rows (by
    intro x hx
    refine ⟨_, rfl, ?_, ?_⟩
    · have e1 : (x.length : Int) = R.b := by rw [len x hx]
      have e2 : (x.all fun y => decide (0 ≤ y) && decide (y ≤ R.m - 1)) = true := by
        rw [List.all_eq_true]
        intro y hy
        have := rng x hx y hy
        simp; omega
      have e3 : x.length ≤ 1000 := by rw [len x hx]; omega
      simp (disch := omega) [-List.map_map, List.getElem?_cons_zero, List.getElem?_cons_succ, withL, Out.fm, P.mkArgs, P.putAll, lm_p_are_rows_1, v_is_row x _ _ e3, e1, e2]
    · simp (disch := omega) [-List.map_map, List.getElem?_cons_zero, List.getElem?_cons_succ, withL, Out.fm, P.mkArgs, P.putAll])
  have c1 : (1 : Int) ≤ R.rows.length := by omega
  have c2 : (R.rows.length : Int) ≤ 30 := by omega
  have c3 : (2 : Int) ≤ R.b := by omega
  have c4 : (R.b : Int) ≤ 36 := by omega
  have l1 : lenD [rowD R.row0] = some (.int R.b) := by unfold RV.b; simp
  simp (disch := omega) [-List.map_map, List.getElem?_cons_zero, List.getElem?_cons_succ, withL, Out.fm, P.mkArgs, P.putAll, fr_p_are_rows, runP, m_p_are_rows, rows0 n1, l1, key, allD_map, c1, c2, c3, c4]
theorem v_init {R : RV} (h : R.Ok) : fm_p_Rule___init__ [.ownI "Rule" [] [], .val (.int R.m), .val (rowsD R.rows), .val (.int R.r)] = .ok (.val .non) [ruleS R] := by
  have := v_are_rows h
  obtain ⟨m2, m200, n1, n30, b2, b36, len, rng, r0, r1⟩ := h
  simp (disch := omega) [-List.map_map, List.getElem?_cons_zero, List.getElem?_cons_succ, withL, Out.fm, P.mkArgs, P.putAll, fm_p_Rule___init__, runM, m_p_Rule___init__, v_modulus _ m2 m200, this, v_remainder _ _ r0 r1]
  rfl
theorem v_weights (ws : List Int) (h1 : 1 ≤ ws.length) (h2 : ws.length ≤ 30) : fr_p_require_weights [rowD ws] = .ok (.val .non) := by
  have key := lcL_all (vs := [1]) (b := bName 1) (m := lm_p_require_weights_1) (ρ := [.val (rowD ws), .unb]) D.int D.bl (fun _ : Int => true) ws (by
    intro x hx
    refine ⟨_, rfl, ?_, ?_⟩
    · simp (disch := omega) [-List.map_map, List.getElem?_cons_zero, List.getElem?_cons_succ, withL, Out.fm, P.mkArgs, P.putAll, lm_p_require_weights_1, v_is_integer0]
    · simp (disch := omega) [-List.map_map, List.getElem?_cons_zero, List.getElem?_cons_succ, withL, Out.fm, P.mkArgs, P.putAll])
  have c1 : (1 : Int) ≤ ws.length := by omega
  have c2 : (ws.length : Int) ≤ 30 := by omega
  simp (disch := omega) [-List.map_map, List.getElem?_cons_zero, List.getElem?_cons_succ, withL, Out.fm, P.mkArgs, P.putAll, fr_p_require_weights, runP, m_p_require_weights, key, allD_map, c1, c2]
def wrow (b : Nat) (m w : Int) : List Int := (List.range b).map fun d : Nat => w * d % m
theorem v_weighted_rows (b : Nat) (m : Int) (ws : List Int) (hb : b ≤ 36) (hm : 0 < m) (hw : ws.length ≤ 1000) : fr_p_weighted_rows [.int b, .int m, rowD ws] = .ok (.val (rowsD (ws.map (wrow b m)))) := by
  have key := lcL_all (vs := [3]) (b := bName 3) (m := lm_p_weighted_rows_2) (ρ := [.val (.int b), .val (.int m), .val (rowD ws), .unb, .unb]) D.int rowD (wrow b m) ws (by
    intro w hw
    refine ⟨_, rfl, ?_, rfl⟩
    have key2 := lcL_all (vs := [4]) (b := bName 4) (m := lm_p_weighted_rows_1) (ρ := [.val (.int b), .val (.int m), .val (rowD ws), .val (.int w), .unb]) (fun i : Nat => .int (i : Int)) D.int (fun d : Nat => w * d % m) (List.range b) (by
      intro d hd
      have hd := List.mem_range.mp hd
      refine ⟨_, rfl, ?_, rfl⟩
      have e1 : mulD (.int w) (.int d) = some (.int (w * d)) := mulD_r (by omega) (by omega)
      simp (disch := omega) [-List.map_map, List.getElem?_cons_zero, List.getElem?_cons_succ, withL, Out.fm, P.mkArgs, P.putAll, lm_p_weighted_rows_1, e1])
    have e2 : rng1 [.int (b : Int)] = some ((List.range b).map fun i : Nat => .int (i : Int)) := by rw [rng1_i (by omega) (by omega), rngL0_map]; rfl
    simp (disch := omega) [-List.map_map, List.getElem?_cons_zero, List.getElem?_cons_succ, withL, Out.fm, P.mkArgs, P.putAll, lm_p_weighted_rows_2, e2, key2]
    rfl)
  simp (disch := omega) [-List.map_map, List.getElem?_cons_zero, List.getElem?_cons_succ, withL, Out.fm, P.mkArgs, P.putAll, fr_p_weighted_rows, runP, m_p_weighted_rows, key]
  rfl
def wrule (b : Nat) (m : Int) (ws : List Int) (r : Int) : RV := ⟨m, ws.map (wrow b m), r⟩
theorem wrow_len (b : Nat) (m w : Int) : (wrow b m w).length = b := by simp [wrow]
theorem wrule_ok {b : Nat} {m : Int} {ws : List Int} {r : Int} (hb : 2 ≤ b) (hb2 : b ≤ 36) (hm : 2 ≤ m) (hm2 : m ≤ 200) (h1 : 1 ≤ ws.length) (h2 : ws.length ≤ 30) (r0 : 0 ≤ r) (r1 : r < m) : (wrule b m ws r).Ok := by
  have hb0 : (wrule b m ws r).b = b := by
    cases ws with
    | nil => simp at h1
    | cons w ws => exact wrow_len b m w
  refine ⟨hm, hm2, by simpa [wrule] using h1, by simpa [wrule] using h2, by omega, by omega, fun row hr => ?_, fun row hr x hx => ?_, r0, r1⟩
  · obtain ⟨w, _, rfl⟩ := List.mem_map.mp hr
    rw [hb0, wrow_len]
  · obtain ⟨w, _, rfl⟩ := List.mem_map.mp hr
    obtain ⟨d, _, rfl⟩ := List.mem_map.mp hx
    exact ⟨Int.emod_nonneg _ (by omega), Int.emod_lt_of_pos _ (by omega)⟩
theorem wrule_b {b : Nat} {m : Int} {ws : List Int} {r : Int} (h1 : 1 ≤ ws.length) : (wrule b m ws r).b = b := by
  cases ws with
  | nil => simp at h1
  | cons w ws => exact wrow_len b m w
theorem v_weighted {b : Nat} {m : Int} {ws : List Int} {r : Int} (hb : 2 ≤ b) (hb2 : b ≤ 36) (hm : 2 ≤ m) (hm2 : m ≤ 200) (h1 : 1 ≤ ws.length) (h2 : ws.length ≤ 30) (r0 : 0 ≤ r) (r1 : r < m) :
    fr_p_Rule_weighted [.cls "Rule", .int b, .int m, rowD ws, .int r] = .ok (ruleS (wrule b m ws r)) := by
  have hi := v_init (wrule_ok hb hb2 hm hm2 h1 h2 r0 r1)
  have hi : fm_p_Rule___init__ [.ownI "Rule" [] [], .val (.int m), .val (rowsD (ws.map (wrow b m))), .val (.int r)] = .ok (.val .non) [ruleS (wrule b m ws r)] := hi
  simp (disch := omega) [-List.map_map, List.getElem?_cons_zero, List.getElem?_cons_succ, withL, Out.fm, P.mkArgs, P.putAll, fr_p_Rule_weighted, runP, m_p_Rule_weighted, v_base b (by omega) (by omega), v_modulus m hm hm2, v_weights ws h1 h2, v_remainder r m r0 r1, v_weighted_rows b m ws hb2 (by omega) (by omega), hi]
theorem rowsD_pl (rs : List (List Int)) : pl (rowsD rs) = true := by
  unfold rowsD
  simp only [pl]
  exact pls_all fun d h => by
    obtain ⟨r, _, rfl⟩ := List.mem_map.mp h
    simp [rowD, pl]
theorem rowsD_rD (rs : List (List Int)) : rD (rowsD rs) ≤ 64 := by
  unfold rowsD
  simp only [rD]
  have : rDs (rs.map rowD) ≤ 1 := rDs_le fun d h => by
    obtain ⟨r, _, rfl⟩ := List.mem_map.mp h
    simp only [rowD, rD]
    have : rDs (r.map D.int) ≤ 0 := rDs_le fun d h => by obtain ⟨i, _, rfl⟩ := List.mem_map.mp h; simp [rD]
    omega
  omega
theorem map_inj {α β : Type} {f : α → β} (hf : ∀ x y, f x = f y → x = y) : ∀ {a b : List α}, a.map f = b.map f → a = b
  | [], [], _ => rfl
  | [], _ :: _, h => by simp at h
  | _ :: _, [], h => by simp at h
  | x :: a, y :: b, h => by
    simp only [List.map_cons, List.cons.injEq] at h
    rw [hf x y h.1, map_inj hf h.2]
theorem rowD_inj {a b : List Int} : rowD a = rowD b ↔ a = b := by
  unfold rowD
  rw [D.tup.injEq]
  exact ⟨fun h => map_inj (fun _ _ h => D.int.inj h) h, fun h => by rw [h]⟩
theorem rowsD_inj {a b : List (List Int)} : rowsD a = rowsD b ↔ a = b := by
  unfold rowsD
  rw [D.tup.injEq]
  exact ⟨fun h => map_inj (fun _ _ h => rowD_inj.mp h) h, fun h => by rw [h]⟩
theorem eq_rows (a b : List (List Int)) : eqD (rowsD a) (rowsD b) = some (.bl (decide (a = b))) := by
  rw [eqD_pl (rowsD_pl a) (rowsD_pl b) (rowsD_rD a) (rowsD_rD b)]
  congr 2
  exact decide_eq_decide.mpr rowsD_inj
def RV.eqB (R S : RV) : Bool := decide (R.m = S.m) && (decide (R.rows = S.rows) && decide (R.r = S.r))
theorem v_eq (R S : RV) : fr_p_Rule___eq__ [ruleD R, ruleD S] = .ok (.val (.bl (R.eqB S))) := by
  unfold RV.eqB
  by_cases h1 : R.m = S.m <;> by_cases h2 : R.rows = S.rows <;> simp (disch := omega) [-List.map_map, List.getElem?_cons_zero, List.getElem?_cons_succ, withL, Out.fm, P.mkArgs, P.putAll, fr_p_Rule___eq__, runP, m_p_Rule___eq__, eq_rows, h1, h2]
theorem RV.eqB_self (R : RV) : R.eqB R = true := by simp [RV.eqB]
theorem cmp_rule (R S : RV) (n : Bool) : cmpI "Rule" fr_p_Rule___eq__ n (ruleD R) (ruleD S) = some (.bl (R.eqB S != n)) := by
  simp [cmpI, v_eq]
end Lw
namespace Lw
open PySem PySem.Spec PyProof.Rows L2 P
--V
def sumIn (rows : List (List Int)) (c : List Int) (m : Int) : Int := ((rows.zip c).map fun p => p.1.getD p.2.toNat 0).sum % m
def RV.sum (R : RV) (c : List Int) : Int := sumIn R.rows c R.m
structure RV.Code (R : RV) (c : List Int) : Prop where
  len : c.length = R.rows.length
  rng : ∀ x ∈ c, 0 ≤ x ∧ x < R.b
@[simp] theorem zip2_rows {rows : List (List Int)} {c : List Int} : zip2 [rowsD rows, rowD c] = some (zipD (rows.map rowD) (c.map .int)) := rfl
end Lw
namespace Lw
open PySem PySem.Spec PyProof.Rows L2 P
--V
inductive Kd where
  | ch (p : Nat)
  | pr (tw : Bool) (p q : Nat)
  deriving DecidableEq
def RV.row (R : RV) (p : Nat) : List Int := R.rows.getD p []
def ent (R : RV) (p d : Nat) : Int := (R.row p).getD d 0
def shiftI (R : RV) (old new : Nat) : Kd → Int
  | .ch p => ent R p new - ent R p old
  | .pr t p q => ent R p new - ent R p old + (if t then ent R q new - ent R q old else ent R q old - ent R q new)
def shiftM (R : RV) (k : Kd) (old new : Nat) : Int := shiftI R old new k % R.m
def Kd.In (n : Nat) : Kd → Prop
  | .ch p => p < n
  | .pr _ p q => p < n ∧ q < n
end Lw
namespace Lw
open PySem PySem.Spec PyProof.Rows L2 P
--V
end Lw
namespace Lw
open PySem PySem.Spec PyProof.Rows L2 P
--V
def weakB (c : Int) (b : Nat) (m : Int) : Bool := (upto 1 b).any fun d => decide ((c * d) % m = 0)
def wg (ws : List Int) (p : Nat) : Int := ws.getD p 0
end Lw
namespace Lw
open PySem PySem.Spec PyProof.Rows L2 P
--V
structure Least (b m d : Int) : Prop where
  pos : 1 ≤ d
  le : d ≤ m
  dvd : m % d = 0
  lt : m / d < b
  least : ∀ e, 1 ≤ e → e < d → m % e = 0 → b ≤ m / e
end Lw
namespace Lw
open PySem PySem.Spec PyProof.Rows L2 P
--V
structure Good (b : Nat) (m : Int) (ws : List Int) (r : Nat) (t : Bool) : Prop where
  rng : ∀ p < ws.length, 0 ≤ wg ws p ∧ wg ws p < m
  one : ∀ p < ws.length, weakB (wg ws p) b m = false
  dif : ∀ p < ws.length, ∀ q < p, p - q ≤ r → weakB ((wg ws p - wg ws q) % m) b m = false
  sum : t = true → ∀ p < ws.length, ∀ q < p, p - q ≤ r → weakB ((wg ws p + wg ws q) % m) b m = false
end Lw
namespace Lw
open PySem PySem.Spec PyProof.Rows L2 P
--V
structure Pol where
  c : Int
  f : Int
  n : Int
def polS (p : Pol) : Slot := .ownL [.val (.int p.c), .val (.int p.f), .val (.int p.n)]
def dkS (ps : List Pol) (t : Int) : Slot := .ownL [.ownL (ps.map polS), .val (.int t)]
def Dk (T : Nat) (s : Slot) : Prop := ∃ ps t, s = dkS ps t ∧ ps ≠ [] ∧ 0 ≤ t ∧ t ≤ T ∧ ∀ p ∈ ps, 0 ≤ p.n ∧ p.n ≤ t + 3000
theorem Dk.mono {T T' : Nat} {s : Slot} (h : Dk T s) (l : T ≤ T') : Dk T' s := by
  obtain ⟨ps, t, h1, h2, h3, h4, h5⟩ := h
  exact ⟨ps, t, h1, h2, h3, by omega, h5⟩
theorem Dk.unb {T : Nat} {s : Slot} (h : Dk T s) : s.isUnb = false := by
  obtain ⟨ps, t, h1, _⟩ := h
  rw [h1]; rfl
end Lw
namespace Lw
open PySem PySem.Spec PyProof.Rows L2 P
--V
theorem powD_ok {x n : Int} (h0 : 0 ≤ n) (h : (x.natAbs.log2 + 1) * n.toNat ≤ 1000000) : powD (.int x) (.int n) = some (.int (x ^ n.toNat)) := if_pos ⟨h0, h⟩
structure Sz (g b m k : Int) : Prop where
  b2 : 2 ≤ b
  b36 : b ≤ 36
  m2 : 2 ≤ m
  m200 : m ≤ 200
  k1 : 1 ≤ k
  k30 : k ≤ 30
  g0 : g = 0 → b.toNat ^ k.toNat ≤ 1024
  g1 : g = 1 → b ≤ 12 ∧ k ≤ 12
end Lw
namespace Lw
open PySem PySem.Spec PyProof.Rows L2 P
--V
def partsD (W : RV) : D := .tup [.int W.m, rowsD W.rows, .int W.r]
end Lw
namespace Lw
open PySem PySem.Spec PyProof.Rows L2 P
--V
@[simp] theorem ixp0 (W : RV) : ixD (partsD W) (.int 0) = some (.int W.m) := rfl
@[simp] theorem ixp1 (W : RV) : ixD (partsD W) (.int 1) = some (rowsD W.rows) := rfl
@[simp] theorem ixp2 (W : RV) : ixD (partsD W) (.int 2) = some (.int W.r) := rfl
theorem get_lap {n i : Nat} {d : D} (h : (rngL 0 n)[i]? = some d) : i < n ∧ d = .int (i : Int) := by
  have hi : i < n := by
    have := (List.getElem?_eq_some_iff.mp h).1
    simpa using this
  rw [rngL0_map, List.getElem?_map, List.getElem?_range hi] at h
  exact ⟨hi, by simpa using h.symm⟩
theorem init_parts {W : RV} (h : W.Ok) : fm_p_Rule___init__ [.ownI "Rule" [] [], .val (.int W.m), .val (rowsD W.rows), .val (.int W.r)] = .ok (.val .non) [ruleS W] := v_init h
@[simp] theorem pick012 (a b c : D) : pick [0, 1, 2] [a, b, c] = [a, b, c] := rfl
@[simp] theorem pick120 (a b c : D) : pick [1, 2, 0] [c, a, b] = [a, b, c] := rfl
theorem set_nx {i : Nat} {m : M P.Slot} {ρ ρ1 : P.Env} {s : P.Slot} (h : m ρ = .ok s ρ1) (u : s.isUnb = false) : setS i m ρ = .nx (ρ1.set i s) := by
  unfold setS
  rw [h]
  cases s <;> first | rfl | cases u
end Lw
namespace Lw
open PySem PySem.Spec PyProof.Rows L2 P
--V
theorem atI_ints {xs : List Int} {j : Nat} {x : Int} (h : xs[j]? = some x) : atI (xs.map D.int) (j : Int) = some (.int x) := by
  have hj := (List.getElem?_eq_some_iff.mp h).1
  unfold atI ixN
  rw [if_pos (by omega), if_pos (by simpa using hj)]
  simp [h]
def sumI (xs : List Int) : Int := xs.foldr (· + ·) 0
theorem sumI_append (a b : List Int) : sumI (a ++ b) = sumI a + sumI b := by
  induction a with
  | nil => simp [sumI]
  | cons x xs ih =>
    show x + sumI (xs ++ b) = x + sumI xs + sumI b
    rw [ih]; omega
end Lw
namespace Lw
open PySem PySem.Spec PyProof.Rows L2 P
--V
abbrev Pls := List (List Int × List Nat)
def rg (row : List Int) (d : Nat) : Int := row.getD d 0
def cntI (m : Nat) : Pls → Int → Int
  | [], s => if s % m = 0 then 1 else 0
  | (row, ds) :: ps, s => sumI (ds.map fun d => cntI m ps (s - rg row d))
def valI (m : Nat) : Pls → Int → List (List Nat)
  | [], s => if s % m = 0 then [[]] else []
  | (row, ds) :: ps, s => ds.flatMap fun d => (valI m ps (s - rg row d)).map (d :: ·)
theorem cntI_mod (m : Nat) : ∀ (ps : Pls) (s t : Int), s % m = t % m → cntI m ps s = cntI m ps t
  | [], s, t, h => by unfold cntI; rw [h]
  | (row, ds) :: ps, s, t, h => by
    unfold cntI
    congr 1
    refine List.map_congr_left fun d _ => cntI_mod m ps _ _ ?_
    rw [Int.sub_emod, h, ← Int.sub_emod]
def inP : Pls → List Nat → Prop
  | [], [] => True
  | (_, ds) :: ps, d :: c => d ∈ ds ∧ inP ps c
  | _, _ => False
end Lw
namespace Lw
open PySem PySem.Spec PyProof.Rows L2 P
--V
structure PlsOk (R : RV) (m : Nat) (als : List (List Nat)) : Prop where
  ok : R.Ok
  m : R.m = (m : Int)
  len : als.length = R.rows.length
  dig : ∀ p ∈ R.rows.zip als, ∀ d ∈ p.2, d < p.1.length
theorem PlsOk.m2 {R : RV} {m : Nat} {als : List (List Nat)} (h : PlsOk R m als) : 2 ≤ m ∧ m ≤ 200 := by
  have := h.ok.m2; have := h.ok.m200; have := h.m; omega
def allA (R : RV) : List (List Nat) := List.replicate R.rows.length (List.range R.b)
@[simp] theorem pick01 (a b : D) : pick [0, 1] [a, b] = [a, b] := rfl
end Lw
namespace Lw
open PySem PySem.Spec PyProof.Rows L2 P
--V
section
variable {R : RV} {m : Nat} {als : List (List Nat)}
end
def nE (eD : D) (k : Int) (fo : P.Slot) (need : Int) (x4 x5 x6 x7 : P.Slot) : P.Env := [.val eD, .val (.int k), fo, .val (.int need), x4, x5, x6, x7]
end Lw
namespace Lw
open PySem PySem.Spec PyProof.Rows L2 P
--V
def mN (R : RV) : Nat := R.m.toNat
def psA (R : RV) : Pls := R.rows.zip (allA R)
def VC (R : RV) : List (List Nat) := valI (mN R) (psA R) R.r
structure NC (R : RV) (c : List Nat) : Prop where
  len : c.length = R.rows.length
  rng : ∀ d ∈ c, d < R.b
theorem sub_mod0 {r s m : Int} (h0 : 0 ≤ r) (h1 : r < m) : (r - s) % m = 0 ↔ s % m = r := by
  constructor
  · intro h
    have : r % m = s % m := Int.emod_eq_emod_iff_emod_sub_eq_zero.mpr h
    rw [← this, Int.emod_eq_of_lt h0 h1]
  · intro h
    apply Int.emod_eq_emod_iff_emod_sub_eq_zero.mp
    rw [h, Int.emod_eq_of_lt h0 h1]
end Lw
namespace Lw
open PySem PySem.Spec PyProof.Rows L2 P
--V
end Lw
namespace Lw
open PySem PySem.Spec PyProof.Rows L2 P
--V
end Lw
namespace Lw
open PySem PySem.Spec PyProof.Rows L2 P
--V
def Kd.Ok (n : Nat) : Kd → Prop
  | .ch p => p < n
  | .pr _ p q => p < q ∧ q < n
theorem Kd.Ok.in_ {n : Nat} {k : Kd} (h : k.Ok n) : k.In n := by
  cases k with
  | ch p => exact h
  | pr t p q => exact ⟨by have := h.1; have := h.2; omega, h.2⟩
end Lw
namespace Lw
open PySem PySem.Spec PyProof.Rows L2 P
--V
@[simp] theorem fz_ownD (t : Bool) (ks vs : List D) : (P.Slot.ownD t ks vs).fz = some (.dct t false ks vs) := rfl
@[simp] theorem keyOf_int (i : Int) : (P.keyOf (.int i)).isSome = true := rfl
abbrev NumD := List (Int × Int)
def dK (kv : NumD) : List D := kv.map fun p => D.int p.1
def dV (kv : NumD) : List D := kv.map fun p => D.int p.2
def getA : NumD → Int → Option Int
  | [], _ => none
  | p :: kv, n => if p.1 = n then some p.2 else getA kv n
def repA (n x : Int) (kv : NumD) : NumD := kv.map fun p => if p.1 = n then (p.1, x) else p
def putA (kv : NumD) (n x : Int) : NumD := match getA kv n with
  | some _ => repA n x kv
  | none => kv ++ [(n, x)]
theorem lk_A (n : Int) : ∀ kv, lkD (dK kv) (dV kv) (.int n) = (getA kv n).map D.int
  | [] => rfl
  | p :: kv => by
    show (if kEq (.int p.1) (.int n) = true then some (.int p.2) else lkD (dK kv) (dV kv) (.int n)) = _
    unfold getA
    by_cases h : p.1 = n
    · rw [if_pos h, if_pos (by simp [kEq, h])]; rfl
    · rw [if_neg h, if_neg (by simp [kEq, h])]; exact lk_A n kv
theorem rp_A (n x : Int) : ∀ kv, rpD (dK kv) (dV kv) (.int n) (.int x) = dV (repA n x kv)
  | [] => rfl
  | p :: kv => by
    show (if kEq (.int p.1) (.int n) = true then D.int x else D.int p.2) :: rpD (dK kv) (dV kv) (.int n) (.int x) = D.int (if p.1 = n then (p.1, x) else p).2 :: dV (repA n x kv)
    rw [rp_A n x kv]
    by_cases h : p.1 = n
    · rw [if_pos h, if_pos (by simp [kEq, h])]
    · rw [if_neg h, if_neg (by simp [kEq, h])]
theorem rep_keys (n x : Int) (kv : NumD) : (repA n x kv).map (·.1) = kv.map (·.1) := by
  unfold repA
  rw [List.map_map]
  refine List.map_congr_left fun p _ => ?_
  show (if p.1 = n then (p.1, x) else p).1 = p.1
  split <;> rfl
theorem dK_keys (kv : NumD) : dK kv = (kv.map (·.1)).map D.int := by unfold dK; rw [List.map_map]; rfl
theorem put_A (n x : Int) (kv : NumD) : putK' (dK kv) (dV kv) (.int n) (.int x) = .ownD false (dK (putA kv n x)) (dV (putA kv n x)) := by
  unfold putK' putA
  rw [lk_A]
  cases getA kv n with
  | none =>
    show Slot.ownD false (dK kv ++ [.int n]) (dV kv ++ [.int x]) = _
    simp [dK, dV]
  | some d =>
    show Slot.ownD false (dK kv) (rpD (dK kv) (dV kv) (.int n) (.int x)) = _
    rw [rp_A, dK_keys (repA n x kv), rep_keys, ← dK_keys]
theorem getA_none {n : Int} : ∀ {kv : NumD}, getA kv n = none → n ∉ kv.map (·.1)
  | [], _ => by simp
  | p :: kv, h => by
    unfold getA at h
    by_cases c : p.1 = n
    · rw [if_pos c] at h; cases h
    · rw [if_neg c] at h
      have := getA_none h
      simp only [List.map_cons, List.mem_cons, not_or]
      exact ⟨fun z => c z.symm, this⟩
theorem getA_mem {p : Int × Int} : ∀ {kv : NumD}, (kv.map (·.1)).Nodup → p ∈ kv → getA kv p.1 = some p.2
  | q :: kv, nd, h => by
    unfold getA
    rcases List.mem_cons.mp h with e | h
    · rw [← e, if_pos rfl]
    · rw [if_neg fun z => ?_]
      · exact getA_mem (List.nodup_cons.mp nd).2 h
      · exact (List.nodup_cons.mp nd).1 (by rw [show (fun p : Int × Int => p.1) q = p.1 from z]; exact List.mem_map_of_mem (f := (·.1)) h)
def totA (kv : NumD) (g : Int → Int) : Int := sumI (kv.map fun p => p.2 * g p.1)
theorem totA_cons (p : Int × Int) (kv : NumD) (g : Int → Int) : totA (p :: kv) g = p.2 * g p.1 + totA kv g := rfl
theorem tot_rep {n x : Int} {g : Int → Int} : ∀ {kv : NumD}, (kv.map (·.1)).Nodup → ∀ o, getA kv n = some o → totA (repA n x kv) g = totA kv g + (x - o) * g n
  | p :: kv, nd, o, h => by
    unfold getA at h
    show (if p.1 = n then (p.1, x) else p).2 * g (if p.1 = n then (p.1, x) else p).1 + totA (repA n x kv) g = p.2 * g p.1 + totA kv g + (x - o) * g n
    by_cases c : p.1 = n
    · rw [if_pos c] at h
      cases h
      have : repA n x kv = kv := by
        unfold repA
        conv => rhs; rw [← List.map_id kv]
        refine List.map_congr_left fun q hq => if_neg fun z => (List.nodup_cons.mp nd).1 ?_
        rw [show (fun p : Int × Int => p.1) p = q.1 from c.trans z.symm]
        exact List.mem_map_of_mem (f := (·.1)) hq
      rw [if_pos c, this, c, Int.sub_mul]
      show x * g n + _ = _
      omega
    · rw [if_neg c] at h
      rw [if_neg c, tot_rep (List.nodup_cons.mp nd).2 o h]
      omega
theorem tot_put {n c : Int} {g : Int → Int} {kv : NumD} (nd : (kv.map (·.1)).Nodup) : totA (putA kv n ((getA kv n).getD 0 + c)) g = totA kv g + c * g n := by
  unfold putA
  cases h : getA kv n with
  | none =>
    show totA (kv ++ [(n, 0 + c)]) g = _
    unfold totA
    rw [List.map_append, sumI_append]
    show _ + ((0 + c) * g n + 0) = _
    rw [Int.zero_add, Int.add_zero]
  | some o =>
    show totA (repA n (o + c) kv) g = _
    rw [tot_rep nd o h]
    congr 2
    omega
structure OkA (m : Int) (kv : NumD) : Prop where
  nd : (kv.map (·.1)).Nodup
  rng : ∀ u ∈ kv.map (·.1), 0 ≤ u ∧ u < m
theorem OkA.put {m : Int} {kv : NumD} {n x : Int} (h : OkA m kv) (h0 : 0 ≤ n) (h1 : n < m) : OkA m (putA kv n x) := by
  unfold putA
  cases e : getA kv n with
  | some d => exact ⟨by show ((repA n x kv).map _).Nodup; rw [rep_keys]; exact h.nd, by show ∀ u ∈ (repA n x kv).map _, _; rw [rep_keys]; exact h.rng⟩
  | none =>
    have := getA_none e
    refine ⟨?_, ?_⟩
    · show ((kv ++ [(n, x)]).map _).Nodup
      rw [List.map_append]
      refine List.nodup_append.mpr ⟨h.nd, by simp, fun a ha b hb => ?_⟩
      simp only [List.map_cons, List.map_nil, List.mem_singleton] at hb
      subst hb
      exact fun z => this (z ▸ ha)
    · show ∀ u ∈ (kv ++ [(n, x)]).map _, _
      rw [List.map_append]
      intro u hu
      rcases List.mem_append.mp hu with hu | hu
      · exact h.rng u hu
      · simp only [List.map_cons, List.map_nil, List.mem_singleton] at hu
        subst hu; exact ⟨h0, h1⟩
theorem nd_len : ∀ (m : Nat) (l : List Int), l.Nodup → (∀ x ∈ l, 0 ≤ x ∧ x < (m : Int)) → l.length ≤ m
  | 0, l, _, h => by
    cases l with
    | nil => simp
    | cons x l => have := h x (by simp); omega
  | m + 1, l, nd, h => by
    by_cases c : (m : Int) ∈ l
    · have ih := nd_len m (l.erase (m : Int)) (nd.erase _) fun x hx => by
        obtain ⟨h1, h2⟩ := nd.mem_erase_iff.mp hx
        have := h x h2
        omega
      rw [List.length_erase_of_mem c] at ih
      omega
    · have ih := nd_len m l nd fun x hx => by
        have := h x hx
        have : x ≠ m := fun z => c (z ▸ hx)
        omega
      omega
theorem OkA.len {m : Nat} {kv : NumD} (h : OkA m kv) : kv.length ≤ m := by
  have := nd_len m _ h.nd h.rng
  rwa [List.length_map] at this
def putsA (m t c : Int) (row : List Int) (ds : List Nat) (kv : NumD) : NumD := ds.foldl (fun kv d => putA kv ((t + rg row d) % m) ((getA kv ((t + rg row d) % m)).getD 0 + c)) kv
theorem puts_ok {m : Nat} (hm : 0 < m) (t c : Int) (row : List Int) : ∀ (ds : List Nat) (kv : NumD), OkA m kv → OkA m (putsA m t c row ds kv) ∧ ∀ g, totA (putsA m t c row ds kv) g = totA kv g + c * sumI (ds.map fun d => g ((t + rg row d) % m))
  | [], kv, h => ⟨h, fun g => by show totA kv g = _ + c * 0; omega⟩
  | d :: ds, kv, h => by
    have h0 := Int.emod_nonneg (t + rg row d) (show (m : Int) ≠ 0 by omega)
    have h1 := Int.emod_lt_of_pos (t + rg row d) (show (0 : Int) < m by omega)
    obtain ⟨i1, i2⟩ := puts_ok hm t c row ds _ (h.put (x := (getA kv ((t + rg row d) % m)).getD 0 + c) h0 h1)
    refine ⟨i1, fun g => ?_⟩
    have := i2 g
    rw [tot_put h.nd] at this
    show totA (putsA m t c row ds _) g = _ + c * (g ((t + rg row d) % m) + sumI (ds.map fun d => g ((t + rg row d) % m)))
    rw [this, Int.mul_add]
    omega
def rowA (m : Int) (row : List Int) (ds : List Nat) (kv0 kv : NumD) : NumD := kv0.foldl (fun kv p => putsA m p.1 p.2 row ds kv) kv
theorem row_ok {m : Nat} (hm : 0 < m) (row : List Int) (ds : List Nat) : ∀ (kv0 kv : NumD), OkA m kv → OkA m (rowA m row ds kv0 kv) ∧ ∀ g, totA (rowA m row ds kv0 kv) g = totA kv g + totA kv0 fun u => sumI (ds.map fun d => g ((u + rg row d) % m))
  | [], kv, h => ⟨h, fun g => by show totA kv g = _ + 0; omega⟩
  | p :: kv0, kv, h => by
    obtain ⟨j1, j2⟩ := puts_ok hm p.1 p.2 row ds kv h
    obtain ⟨i1, i2⟩ := row_ok hm row ds kv0 _ j1
    refine ⟨i1, fun g => ?_⟩
    rw [totA_cons]
    show totA (rowA m row ds kv0 _) g = _
    rw [i2, j2]
    omega
def StA (m : Nat) (all rest : Pls) (kv : NumD) : Prop := OkA m kv ∧ ∀ s, totA kv (fun u => cntI m rest (s - u)) = cntI m all s
theorem StA.step {m : Nat} (hm : 0 < m) {all rest : Pls} {row : List Int} {ds : List Nat} {kv : NumD} (h : StA m all ((row, ds) :: rest) kv) : StA m all rest (rowA m row ds kv []) := by
  obtain ⟨i1, i2⟩ := row_ok hm row ds kv [] ⟨by simp, by simp⟩
  refine ⟨i1, fun s => ?_⟩
  rw [i2, ← h.2 s]
  show 0 + _ = _
  rw [Int.zero_add]
  congr 1
  funext u
  show _ = sumI (ds.map fun d => cntI m rest (s - u - rg row d))
  congr 1
  refine List.map_congr_left fun d _ => cntI_mod m rest _ _ ?_
  rw [Int.sub_emod, Int.emod_emod_of_dvd _ (Int.dvd_refl _), ← Int.sub_emod, Int.sub_sub]
theorem StA.init {m : Nat} (hm : 0 < m) (all : Pls) : StA m all all [(0, 1)] := ⟨⟨by simp, by simp; omega⟩, fun s => by
  show 1 * cntI m all (s - 0) + 0 = _
  rw [Int.sub_zero]; omega⟩
theorem tot_one {m : Nat} (hm : 0 < m) {s : Int} (h0 : 0 ≤ s) (h1 : s < m) : ∀ {kv : NumD}, OkA m kv → totA kv (fun u => cntI m [] (s - u)) = (getA kv s).getD 0
  | [], _ => rfl
  | p :: kv, h => by
    have hr := h.rng p.1 (by simp)
    have h2 : OkA m kv := ⟨(List.nodup_cons.mp h.nd).2, fun u hu => h.rng u (by simp at hu ⊢; right; exact hu)⟩
    rw [totA_cons, tot_one hm h0 h1 h2]
    show _ = Option.getD (if p.1 = s then some p.2 else getA kv s) 0
    by_cases c : p.1 = s
    · rw [if_pos c]
      have : getA kv s = none := by
        cases e : getA kv s with
        | none => rfl
        | some x =>
          exfalso
          have hs : s ∉ kv.map (·.1) := by have := (List.nodup_cons.mp h.nd).1; rw [show (fun p : Int × Int => p.1) p = s from c] at this; exact this
          have key : ∀ (l : NumD) (y : Int), getA l s = some y → s ∈ l.map (·.1) := by
            intro l
            induction l with
            | nil => intro y h; cases h
            | cons q l ih =>
              intro y h
              unfold getA at h
              by_cases c : q.1 = s
              · simp [c]
              · rw [if_neg c] at h
                have := ih y h
                simp only [List.map_cons, List.mem_cons]; exact .inr this
          exact hs (key kv x e)
      rw [this]
      unfold cntI
      rw [if_pos (by rw [c, Int.sub_self]; simp)]
      show p.2 * 1 + 0 = p.2
      omega
    · rw [if_neg c]
      unfold cntI
      rw [if_neg]
      · omega
      · rw [sub_mod0 h0 h1, Int.emod_eq_of_lt hr.1 hr.2]; exact c
theorem StA.fin {m : Nat} (hm : 0 < m) {all : Pls} {kv : NumD} (h : StA m all [] kv) {s : Int} (h0 : 0 ≤ s) (h1 : s < m) : (getA kv s).getD 0 = cntI m all s := by
  rw [← h.2 s, tot_one hm h0 h1 h.1]
def sE (pt kn : D) (fd : P.Slot) (ln ow lt so tt dg nt : P.Slot) : P.Env := [.val pt, .val kn, fd, ln, ow, lt, so, tt, dg, nt]
def ownN (kv : NumD) : P.Slot := .ownD false (dK kv) (dV kv)
def valN (l : Bool) (kv : NumD) : D := .dct false l (dK kv) (dV kv)
theorem s1a {pt kn ln fD so N : D} {ks vs ks' vs' : List D} {m t x c o : Int} {ow nt : P.Slot} (e0 : ixD pt (.int 0) = some (.int m)) (hm : 0 < m) (ex : ixD ln N = some (.int x)) (ho : (lkD ks vs (.int ((t + x) % m))).getD (.int 0) = .int o) (hf : ixKD fD (.int t) = some (.int c)) (hl : ks.length < 1000000)
    (hp : putK' ks vs (.int ((t + x) % m)) (.int (o + c)) = .ownD false ks' vs') :
    fb_law_sums_1 (sE pt kn (.val fD) (.val ln) ow (.ownD false ks vs) (.val so) (.val (.int t)) (.val N) nt) = .nx (sE pt kn (.val fD) (.val ln) ow (.ownD false ks' vs') (.val so) (.val (.int t)) .unb .unb) := by
  unfold sE
  simp (disch := omega) [-List.map_map, List.getElem?_cons_zero, List.getElem?_cons_succ, withL, Out.fm, P.mkArgs, P.putAll, fb_law_sums_1, e0, ex, hm, getK, P.keyOf, ho, hf, hl, hp]
theorem s1b {pt kn : D} {row : List Int} {m : Nat} {kv0 kv : NumD} {t c : Int} {d : Nat} {ow nt : P.Slot} {so : D} (e0 : ixD pt (.int 0) = some (.int (m : Int))) (hm : 0 < m) (hm2 : m ≤ 1000) (hd : d < row.length) (hc : getA kv0 t = some c) (ok : OkA m kv) :
    fb_law_sums_1 (sE pt kn (.val (valN true kv0)) (.val (rowD row)) ow (ownN kv) (.val so) (.val (.int t)) (.val (iN d)) nt) = .nx (sE pt kn (.val (valN true kv0)) (.val (rowD row)) ow (ownN (putA kv ((t + rg row d) % m) ((getA kv ((t + rg row d) % m)).getD 0 + c))) (.val so) (.val (.int t)) .unb .unb) := by
  have ex : ixD (rowD row) (iN d) = some (.int (rg row d)) := by
    have := ix_row (r := row) (i := (d : Int)) (by omega) (by omega)
    rw [Int.toNat_natCast] at this
    exact this
  have hl := ok.len
  refine s1a e0 (by omega) ex ?_ ?_ (by simp [dK]; omega) (put_A _ _ _)
  · rw [lk_A]
    cases getA kv ((t + rg row d) % (m : Int)) <;> rfl
  · show (if (P.keyOf (.int t)).isSome = true then lkD (dK kv0) (dV kv0) (.int t) else none) = _
    rw [if_pos (show (P.keyOf (.int t)).isSome = true from rfl), lk_A, hc]; rfl
theorem s2 {pt kn : D} {row : List Int} {m : Nat} {kv0 kv : NumD} {t c : Int} {ds : List Nat} {ow : P.Slot} (e0 : ixD pt (.int 0) = some (.int (m : Int))) (hm : 0 < m) (hm2 : m ≤ 1000) (hd : ∀ d ∈ ds, d < row.length) (hc : getA kv0 t = some c) (ok : OkA m kv) :
    fb_law_sums_2 (sE pt kn (.val (valN true kv0)) (.val (rowD row)) ow (ownN kv) (.val (.lst (ds.map iN))) (.val (.int t)) .unb .unb) = .nx (sE pt kn (.val (valN true kv0)) (.val (rowD row)) ow (ownN (putsA m t c row ds kv)) (.val (.lst (ds.map iN))) .unb .unb .unb) := by
  have lp : ∀ (es : List Nat) (kv : NumD), (∀ d ∈ es, d < row.length) → OkA m kv → forL (bName 8) fb_law_sums_1 (es.map iN) (sE pt kn (.val (valN true kv0)) (.val (rowD row)) ow (ownN kv) (.val (.lst (ds.map iN))) (.val (.int t)) .unb .unb) = .nx (sE pt kn (.val (valN true kv0)) (.val (rowD row)) ow (ownN (putsA m t c row es kv)) (.val (.lst (ds.map iN))) (.val (.int t)) .unb .unb) := by
    intro es
    induction es with
    | nil => intro kv _ _; rfl
    | cons d es ih =>
      intro kv hd ok
      rw [List.map_cons, forL_cons]
      show lpO _ (fb_law_sums_1 (sE pt kn (.val (valN true kv0)) (.val (rowD row)) ow (ownN kv) (.val (.lst (ds.map iN))) (.val (.int t)) (.val (iN d)) .unb)) = _
      rw [s1b e0 hm hm2 (hd d (by simp)) hc ok]
      show forL _ _ _ _ = _
      have h0 := Int.emod_nonneg (t + rg row d) (show (m : Int) ≠ 0 by omega)
      have h1 := Int.emod_lt_of_pos (t + rg row d) (show (0 : Int) < m by omega)
      exact ih _ (fun x hx => hd x (by simp [hx])) (ok.put h0 h1)
  have e := lp ds kv hd ok
  unfold sE at *
  generalize ownN (putsA m t c row ds kv) = Z at *
  generalize ownN kv = Y at *
  generalize valN true kv0 = F at *
  generalize ds.map iN = DS at *
  generalize rowD row = R at *
  simp (disch := omega) [-List.map_map, List.getElem?_cons_zero, List.getElem?_cons_succ, withL, Out.fm, P.mkArgs, P.putAll, fb_law_sums_2, e]
theorem s3 {pt kn : D} {row : List Int} {m : Nat} {kv0 : NumD} {ds : List Nat} {ow : P.Slot} (e0 : ixD pt (.int 0) = some (.int (m : Int))) (hm : 0 < m) (hm2 : m ≤ 1000) (hd : ∀ d ∈ ds, d < row.length) (ok0 : OkA m kv0) : 
    forL (bName 7) fb_law_sums_2 (dK kv0) (sE pt kn (.val (valN true kv0)) (.val (rowD row)) ow (ownN []) (.val (.lst (ds.map iN))) .unb .unb .unb) = .nx (sE pt kn (.val (valN true kv0)) (.val (rowD row)) ow (ownN (rowA m row ds kv0 [])) (.val (.lst (ds.map iN))) .unb .unb .unb) := by
  have lp : ∀ (es : NumD) (kv : NumD), (∀ p ∈ es, p ∈ kv0) → OkA m kv → forL (bName 7) fb_law_sums_2 (dK es) (sE pt kn (.val (valN true kv0)) (.val (rowD row)) ow (ownN kv) (.val (.lst (ds.map iN))) .unb .unb .unb) = .nx (sE pt kn (.val (valN true kv0)) (.val (rowD row)) ow (ownN (rowA m row ds es kv)) (.val (.lst (ds.map iN))) .unb .unb .unb) := by
    intro es
    induction es with
    | nil => intro kv _ _; rfl
    | cons p es ih =>
      intro kv hp ok
      show forL (bName 7) fb_law_sums_2 (.int p.1 :: dK es) _ = _
      rw [forL_cons]
      show lpO _ (fb_law_sums_2 (sE pt kn (.val (valN true kv0)) (.val (rowD row)) ow (ownN kv) (.val (.lst (ds.map iN))) (.val (.int p.1)) .unb .unb)) = _
      rw [s2 e0 hm hm2 hd (getA_mem ok0.nd (hp p (by simp))) ok]
      show forL _ _ _ _ = _
      exact ih _ (fun x hx => hp x (by simp [hx])) (puts_ok hm p.1 p.2 row ds kv ok).1
  exact lp kv0 [] (fun p h => h) ⟨by simp, by simp⟩
def knO (o : Option Nat) : D := match o with
  | some d => iN d
  | none => .non
def dsO (b : Nat) (o : Option Nat) : List Nat := match o with
  | some d => [d]
  | none => List.range b
theorem s4 {pt kn lnD owD : D} {fk fv DS zk zv : List D} (hso : ifS (tst (bop isD (var 4) (cst .non))) (setS 6 (vl (fzM (lrg1 (callB lenD (consA (var 3) nilA)))))) nop (sE pt kn (.ownD false fk fv) (.val lnD) (.val owD) (.ownD false [] []) (.val (.lst [owD])) .unb .unb .unb) = .nx (sE pt kn (.ownD false fk fv) (.val lnD) (.val owD) (.ownD false [] []) (.val (.lst DS)) .unb .unb .unb))
    (lp : forL (bName 7) fb_law_sums_2 fk (sE pt kn (.val (.dct false true fk fv)) (.val lnD) (.val owD) (.ownD false [] []) (.val (.lst DS)) .unb .unb .unb) = .nx (sE pt kn (.val (.dct false true fk fv)) (.val lnD) (.val owD) (.ownD false zk zv) (.val (.lst DS)) .unb .unb .unb)) :
    fb_law_sums_3 (sE pt kn (.ownD false fk fv) (.val lnD) (.val owD) .unb .unb .unb .unb .unb) = .nx (sE pt kn (.ownD false zk zv) .unb .unb .unb .unb .unb .unb .unb) := by
  unfold fb_law_sums_3 fgt
  rw [seq_nx (ρ1 := sE pt kn (.ownD false fk fv) (.val lnD) (.val owD) (.ownD false [] []) (.val (.lst [owD])) .unb .unb .unb) (by unfold sE; simp (disch := omega) [-List.map_map, List.getElem?_cons_zero, List.getElem?_cons_succ, withL, Out.fm, P.mkArgs, P.putAll]), seq_nx hso,
    seq_nx (ρ1 := sE pt kn (.val (.dct false true fk fv)) (.val lnD) (.val owD) (.ownD false zk zv) (.val (.lst DS)) .unb .unb .unb) (by unfold sE at *; simp (disch := omega) [-List.map_map, List.getElem?_cons_zero, List.getElem?_cons_succ, withL, Out.fm, P.mkArgs, P.putAll, lp])]
  unfold sE
  simp (disch := omega) [-List.map_map, List.getElem?_cons_zero, List.getElem?_cons_succ, withL, Out.fm, P.mkArgs, P.putAll]
theorem s5 {pt kn : D} {row : List Int} {m b : Nat} {o : Option Nat} {kv0 : NumD} (e0 : ixD pt (.int 0) = some (.int (m : Int))) (hm : 0 < m) (hm2 : m ≤ 1000) (hb : row.length = b) (hb2 : b ≤ 1000) (ho : ∀ d, o = some d → d < b) (ok0 : OkA m kv0) :
    fb_law_sums_3 (sE pt kn (ownN kv0) (.val (rowD row)) (.val (knO o)) .unb .unb .unb .unb .unb) = .nx (sE pt kn (ownN (rowA m row (dsO b o) kv0 [])) .unb .unb .unb .unb .unb .unb .unb) := by
  refine s4 (DS := (dsO b o).map iN) ?_ (s3 e0 hm hm2 (fun d hd => ?_) ok0)
  · cases o with
    | some d =>
      unfold sE knO dsO
      simp only [iN, List.map_cons, List.map_nil]
      simp (disch := omega) [-List.map_map, List.getElem?_cons_zero, List.getElem?_cons_succ, withL, Out.fm, P.mkArgs, P.putAll]
    | none =>
      have er : rngL 0 b = (dsO b none).map iN := by unfold rngL dsO; refine List.map_congr_left fun i _ => ?_; unfold iN; simp
      have hl : lenD [rowD row] = some (.int (b : Int)) := by rw [← hb]; simp
      have el : okR 0 (b : Int) = true := by unfold okR; simp; omega
      have l2 : ((dsO b none).map iN).length ≤ 1000000 := by unfold dsO; simp; omega
      generalize (dsO b none).map iN = DS at *
      generalize rowD row = R at *
      unfold sE knO
      simp (disch := omega) [-List.map_map, List.getElem?_cons_zero, List.getElem?_cons_succ, withL, Out.fm, P.mkArgs, P.putAll, hl, el, er, l2]
  · cases o with
    | some x =>
      simp only [dsO, List.mem_singleton] at hd
      subst hd
      have := ho d rfl
      omega
    | none =>
      simp only [dsO, List.mem_range] at hd
      omega
def psO (b : Nat) (zs : List (List Int × Option Nat)) : Pls := zs.map fun z => (z.1, dsO b z.2)
theorem s6 {pt kn : D} {m b : Nat} (e0 : ixD pt (.int 0) = some (.int (m : Int))) (hm : 0 < m) (hm2 : m ≤ 1000) (hb2 : b ≤ 1000) (all : Pls) : ∀ (zs : List (List Int × Option Nat)) (kv : NumD), (∀ z ∈ zs, z.1.length = b ∧ ∀ d, z.2 = some d → d < b) → StA m all (psO b zs) kv →
    ∃ kv', forL (bTup [(bName 3), (bName 4)]) fb_law_sums_3 (zs.map fun z => .tup [rowD z.1, knO z.2]) (sE pt kn (ownN kv) .unb .unb .unb .unb .unb .unb .unb) = .nx (sE pt kn (ownN kv') .unb .unb .unb .unb .unb .unb .unb) ∧ StA m all [] kv'
  | [], kv, _, st => ⟨kv, rfl, st⟩
  | z :: zs, kv, h, st => by
    obtain ⟨h1, h2⟩ := h z (by simp)
    obtain ⟨kv', i1, i2⟩ := s6 e0 hm hm2 hb2 all zs (rowA m z.1 (dsO b z.2) kv []) (fun x hx => h x (by simp [hx])) (st.step hm)
    refine ⟨kv', ?_, i2⟩
    rw [List.map_cons, forL_cons]
    show lpO _ (fb_law_sums_3 (sE pt kn (ownN kv) (.val (rowD z.1)) (.val (knO z.2)) .unb .unb .unb .unb .unb)) = _
    rw [s5 e0 hm hm2 h1 hb2 h2 st.1]
    exact i1
theorem s7 {pt kn : D} {ls : D} {zs : List D} {fk fv : List D} (e1 : ixD pt (.int 1) = some ls) (ez : zip4 [ls, kn] = some zs) (lp : forL (bTup [(bName 3), (bName 4)]) fb_law_sums_3 zs (sE pt kn (.ownD false [.int 0] [.int 1]) .unb .unb .unb .unb .unb .unb .unb) = .nx (sE pt kn (.ownD false fk fv) .unb .unb .unb .unb .unb .unb .unb)) :
    fr_law_sums [pt, kn] = .ok (.ownD false fk fv) := by
  unfold sE at lp
  simp (disch := omega) [-List.map_map, List.getElem?_cons_zero, List.getElem?_cons_succ, withL, Out.fm, P.mkArgs, P.putAll, fr_law_sums, runP, m_law_sums, e1, ez, lp]
end Lw
namespace Lw
open PySem PySem.Spec PyProof.Rows L2 P
--V
end Lw
namespace Lw
open PySem PySem.Spec PyProof.Rows L2 P
--V
structure Chg (n b : Nat) (spots : List Nat) (turned : List (List Nat)) : Prop where
  sp : spots.Perm (List.range n)
  tl : turned.length = n
  tn : ∀ t ∈ turned, t.Perm (List.range b)
theorem Chg.in_ {n b : Nat} {spots : List Nat} {turned : List (List Nat)} (h : Chg n b spots turned) {z : Nat × List Nat} (hz : z ∈ spots.zip turned) : z.1 < n ∧ z.2.Perm (List.range b) := by
  have := List.of_mem_zip (show (z.1, z.2) ∈ spots.zip turned from hz)
  exact ⟨List.mem_range.mp (h.sp.mem_iff.mp this.1), h.tn _ this.2⟩
end Lw
namespace Lw
open PySem PySem.Spec PyProof.Rows L2 P
--V
end Lw
namespace Lw
open PySem PySem.Spec PyProof.Rows L2 P
--V
def Cup (n : Nat) (s : Slot) : Prop := ∃ a b c : Int, s = .ownL [.val (.int a), .val (.int b), .val (.int c)] ∧ 0 ≤ a ∧ 0 ≤ b ∧ b < 10000000000000000000000000000000000043 ∧ 0 ≤ c ∧ c ≤ n
theorem Cup.mono {n m : Nat} {s : Slot} (h : Cup n s) (e : n ≤ m) : Cup m s := by
  obtain ⟨a, b, c, h1, h2, h3, h4, h5, h6⟩ := h
  exact ⟨a, b, c, h1, h2, h3, h4, h5, by omega⟩
end Lw
namespace Lw
open PySem PySem.Spec PyProof.Rows L2 P
--V
def hasN (k : Kd) (o n : Nat) (c : List Nat) : Prop := match k with
  | .ch p => c.getD p 0 = o
  | .pr t p q => c.getD p 0 = o ∧ c.getD q 0 = if t then o else n
end Lw
namespace Lw
open PySem PySem.Spec PyProof.Rows L2 P
--V
structure PC (R : RV) (os : List (Option Nat)) : Prop where
  len : os.length = R.rows.length
  rng : ∀ d, some d ∈ os → d < R.b
end Lw
namespace Lw
open PySem PySem.Spec PyProof.Rows L2 P
--V
structure RsOk (b n : Nat) (Rs : List RV) : Prop where
  l1 : 1 ≤ Rs.length
  l3 : Rs.length ≤ 3
  ok : ∀ R ∈ Rs, R.Ok
  b : ∀ R ∈ Rs, R.b = b
  n : ∀ R ∈ Rs, R.rows.length = n
theorem RsOk.cons {b n : Nat} {Rs : List RV} (h : RsOk b n Rs) : ∃ R Rs', Rs = R :: Rs' ∧ R.Ok ∧ R.b = b ∧ R.rows.length = n := by
  cases Rs with
  | nil => have := h.l1; simp at this
  | cons R Rs' => exact ⟨R, Rs', rfl, h.ok R (by simp), h.b R (by simp), h.n R (by simp)⟩
theorem RsOk.one {R : RV} (h : R.Ok) : RsOk R.b R.rows.length [R] := ⟨by simp, by simp, fun S hS => by simp at hS; rw [hS]; exact h, fun S hS => by simp at hS; rw [hS], fun S hS => by simp at hS; rw [hS]⟩
def shiftsL (Rs : List RV) (p o n : Nat) : List Int := Rs.map fun R => shiftM R (.ch p) o n
structure NCs (b n : Nat) (c : List Nat) : Prop where
  len : c.length = n
  rng : ∀ d ∈ c, d < b
theorem NCs.of {b n : Nat} {Rs : List RV} (h : RsOk b n Rs) {c : List Nat} (hc : NCs b n c) {R : RV} (hR : R ∈ Rs) : NC R c := ⟨by rw [h.n R hR]; exact hc.len, by rw [h.b R hR]; exact hc.rng⟩
end Lw
namespace Lw
open PySem PySem.Spec PyProof.Rows L2 P
--V
def DkB (N : Nat) (s : P.Slot) : Prop := ∃ a b c : Int, s = .ownL [.val (.int a), .val (.int b), .val (.int c)] ∧ 0 ≤ a ∧ 0 ≤ b ∧ b < 10000000000000000000000000000000000000000 ∧ 0 ≤ c ∧ c ≤ N
theorem DkB.unb {N : Nat} {s : P.Slot} (h : DkB N s) : s.isUnb = false := by obtain ⟨a, b, c, rfl, _⟩ := h; rfl
theorem DkB.mono {n m : Nat} {s : P.Slot} (h : DkB n s) (e : n ≤ m) : DkB m s := by
  obtain ⟨a, b, c, h1, h2, h3, h4, h5, h6⟩ := h
  exact ⟨a, b, c, h1, h2, h3, h4, h5, by omega⟩
end Lw
namespace Lw
open PySem PySem.Spec PyProof.Rows L2 P
--V
section
open Classical
end
theorem pls_all : ∀ es : List D, (∀ e ∈ es, pl e = true) → pls es = true
  | [], _ => rfl
  | e :: es, h => by simp only [pls, Bool.and_eq_true]; exact ⟨h e (by simp), pls_all es fun x hx => h x (by simp [hx])⟩
theorem rDs_all (n : Nat) : ∀ es : List D, (∀ e ∈ es, rD e ≤ n) → rDs es ≤ n
  | [], _ => by simp [rDs]
  | e :: es, h => by
    simp only [rDs]
    have := h e (by simp)
    have := rDs_all n es fun x hx => h x (by simp [hx])
    omega
end Lw
namespace Lw
open PySem PySem.Spec PyProof.Rows L2 P
def tw : Kd → Bool
  | .ch _ => false
  | .pr t _ _ => t
instance {k : Kd} {o n : Nat} {c : List Nat} : Decidable (hasN k o n c) := by
  cases k <;> (unfold hasN; infer_instance)
end Lw
namespace Lw
open PySem PySem.Spec PyProof.Rows L2 P
end Lw
namespace Lw
open PySem PySem.Spec PyProof.Rows L2 P
theorem frz_step {i : Nat} {m : S} {ρ : P.Env} {s : P.Slot} {d : D} (h : ρ[i]? = some s) (hz : s.fz = some d) : frzS i m ρ = m (ρ.set i (.val d)) := by
  simp [frzS, h, hz]
def rwE (s : P.Slot) (many size div way : Int) (FL : List D) (x6 x7 x8 x9 x10 : P.Slot) : P.Env := [s, .val (.int many), .val (.int size), .val (.int div), .val (.int way), .ownL (FL.map .val), x6, x7, x8, x9, x10]
def ifRA : S := (ifS (orB (tst (bop eqD (var 4) (cst (.int 2)))) (andB (tst (bop eqD (var 4) (cst (.int 4)))) (tst (bop eqD (fzM (callMM fm_law_sip [some 0, none] (ownA 0 (consA (cst (.int 4)) nilA)))) (cst (.int 0)))))) (seqS (setS 8 (lcM [10] (iterA rng1 (consA (var 2) nilA)) (bName 10) yesM lm_law_rows_2)) (frzS 8 nop)) nop)
def ifRB : S := (ifS (tst (bop eqD (var 4) (cst (.int 3)))) (seqS (setS 9 (lrg1 (callB max2D (consA (var 3) (consA (var 2) nilA))))) (seqS (setS 8 (lcM [10] (iterA rng1 (consA (var 2) nilA)) (bName 10) yesM lm_law_rows_3)) (frzS 8 nop))) nop)
theorem row0 {s s1 s2 s3 x9 x9' : P.Slot} {many size div way l ld p : Int} {FL R1 R2 R3 UL : List D} (u0 : s.isUnb = false) (e1 : fm_law_sip [s, .val (.int div)] = .ok (.val (.int l)) [s1]) (u1 : s1.isUnb = false) (hx : ixD (.lst [.int l, .int (p + 1), .int 0, .int 0, .int 1]) (.int way) = some (.int ld)) (er : rng1 [.int size] = some UL) (hU : UL.length ≤ 16777216)
    (k1 : lcL [10] (bName 10) yesM lm_law_rows_1 UL (rwE s1 many size div way FL (.val (.int p)) (.val (.int ld)) .unb x9 .unb) = .ok R1 (rwE s1 many size div way FL (.val (.int p)) (.val (.int ld)) .unb x9 .unb))
    (hA : ifRA (rwE s1 many size div way FL (.val (.int p)) (.val (.int ld)) (.val (.lst R1)) x9 .unb) = .nx (rwE s2 many size div way FL (.val (.int p)) (.val (.int ld)) (.val (.lst R2)) x9 .unb))
    (hB : ifRB (rwE s2 many size div way FL (.val (.int p)) (.val (.int ld)) (.val (.lst R2)) x9 .unb) = .nx (rwE s3 many size div way FL (.val (.int p)) (.val (.int ld)) (.val (.lst R3)) x9' .unb)) (hl : FL.length < 1000000) :
    fb_law_rows_1 (rwE s many size div way FL (.val (.int p)) .unb .unb x9 .unb) = .nx (rwE s3 many size div way (FL ++ [.tup R3]) .unb .unb .unb x9' .unb) := by
  unfold fb_law_rows_1
  refine fgt_step ⟨rwE s3 many size div way (FL ++ [.tup R3]) (.val (.int p)) (.val (.int ld)) (.val (.lst R3)) x9' .unb, ?_, rfl⟩
  unfold rwE at *
  (apply seq_step; focus (simp (disch := omega) [-List.map_map, List.getElem?_cons_zero, List.getElem?_cons_succ, withL, Out.fm, P.mkArgs, P.putAll, u0, e1, u1, hx]; rfl))
  (apply seq_step; focus (simp (disch := omega) [-List.map_map, List.getElem?_cons_zero, List.getElem?_cons_succ, withL, Out.fm, P.mkArgs, P.putAll, er, hU, k1]; rfl))
  rw [frz_step (s := .ownL (R1.map .val)) (d := .lst R1) rfl (by simp [Slot.fz, fzs_vals])]
  refine seq_step hA ?_
  refine seq_step hB ?_
  simp (disch := omega) [-List.map_map, List.getElem?_cons_zero, List.getElem?_cons_succ, withL, Out.fm, P.mkArgs, P.putAll, hl]
theorem Cup.unb {N : Nat} {s : P.Slot} (h : Cup N s) : s.isUnb = false := by
  obtain ⟨a, b, c, rfl, _⟩ := h; rfl
end Lw
namespace Lw
open PySem PySem.Spec PyProof.Rows L2 P
def rI (i : Int) : Nat := if 0 ≤ i ∧ i < 300 then 4 else 1921
mutual
def rS : D → Nat
  | .non => 4
  | .bl _ => 5
  | .int i => rI i
  | .str x => (reprText x).length
  | .tup ds => rSs ds + 4
  | .lst ds => rSs ds + 4
  | _ => 0
def rSs : List D → Nat
  | [] => 0
  | d :: r => rS d + 2 + rSs r
end
theorem small_len : ∀ n : Nat, n < 300 → (PyData.shown (.int (n : Int))).length ≤ 4 := by
  have : (List.range 300).all (fun n : Nat => decide ((PyData.shown (.int (n : Int))).length ≤ 4)) = true := by decide +kernel
  intro n hn
  have := List.all_eq_true.mp this n (List.mem_range.mpr hn)
  exact of_decide_eq_true this
mutual
theorem rS_of : ∀ (d : D), rK d = true → ∃ p, toP d = some p ∧ p.showable = true ∧ p.hasDict = false ∧ p.depth ≤ rD d ∧ p.shown.length ≤ rS d
  | .non, h => r_of .non h
  | .bl b, h => r_of (.bl b) h
  | .int i, h => by
    obtain ⟨p, h1, h2, h3, h4, h5⟩ := r_of (.int i) h
    refine ⟨p, h1, h2, h3, h4, ?_⟩
    show _ ≤ rI i
    unfold rI
    split
    · rename_i c
      obtain ⟨n, rfl⟩ : ∃ n : Nat, i = (n : Int) := ⟨i.toNat, by omega⟩
      cases h1
      exact small_len n (by omega)
    · exact h5
  | .str x, h => r_of (.str x) h
  | .tup ds, h => by
    obtain ⟨ps, h1, h2, h3, h4, h5⟩ := rSs_of ds (by simpa [rK] using h)
    refine ⟨.tuple ps, by simp [toP, h1], by simpa [PyData.showable] using h2, by simpa [PyData.hasDict] using h3, by simp [PyData.depth, rD]; exact h4, ?_⟩
    simp only [PyData.shown, rS]
    exact Nat.le_trans (tupleText_len _) (by omega)
  | .lst ds, h => by
    obtain ⟨ps, h1, h2, h3, h4, h5⟩ := rSs_of ds (by simpa [rK] using h)
    refine ⟨.list ps, by simp [toP, h1], by simpa [PyData.showable] using h2, by simpa [PyData.hasDict] using h3, by simp [PyData.depth, rD]; exact h4, ?_⟩
    simp only [PyData.shown, rS]
    exact Nat.le_trans (listText_len _) (by omega)
  | .dct _ _ _ _, h => by simp [rK] at h
  | .ins _ _ _, h => by simp [rK] at h
  | .cls _, h => by simp [rK] at h
  | .scr _, h => by simp [rK] at h
theorem rSs_of : ∀ (ds : List D), rKs ds = true → ∃ ps, toPs ds = some ps ∧ PyData.showableAll ps = true ∧ PyData.hasDictAll ps = false ∧ PyData.depthAll ps ≤ rDs ds ∧ piled (PyData.shownAll ps) ≤ rSs ds
  | [], _ => ⟨[], rfl, rfl, rfl, by simp [PyData.depthAll], by simp [PyData.shownAll, piled]⟩
  | d :: r, h => by
    simp only [rKs, Bool.and_eq_true] at h
    obtain ⟨p, h1, h2, h3, h4, h5⟩ := rS_of d h.1
    obtain ⟨ps, g1, g2, g3, g4, g5⟩ := rSs_of r h.2
    refine ⟨p :: ps, by simp [toPs, h1, g1], by simp [PyData.showableAll, h2, g2], by simp [PyData.hasDictAll, h3, g3], by simp only [PyData.depthAll, rDs]; omega, ?_⟩
    simp only [PyData.shownAll, rSs, piled_cons]
    omega
end
theorem repr_small {d : D} (h1 : rK d = true) (h2 : rD d ≤ 40) (h3 : rS d ≤ 1000000) : ∃ s, reprD [d] = some (.str s) := by
  obtain ⟨p, g1, g2, g3, g4, g5⟩ := rS_of d h1
  refine ⟨p.shown, ?_⟩
  unfold reprD
  simp only [g1]
  rw [if_pos]
  simp only [g2, g3, Bool.true_and, Bool.not_false, Bool.and_true, Bool.and_eq_true, decide_eq_true_eq]
  exact ⟨by omega, by omega⟩
theorem rKs_all : ∀ {ds : List D}, (∀ d ∈ ds, rK d = true) → rKs ds = true
  | [], _ => rfl
  | d :: ds, h => by
    simp only [rKs, Bool.and_eq_true]
    exact ⟨h d (by simp), rKs_all fun x hx => h x (by simp [hx])⟩
theorem rSs_all {n : Nat} : ∀ {ds : List D}, (∀ d ∈ ds, rS d ≤ n) → rSs ds ≤ ds.length * (n + 2)
  | [], _ => by simp [rSs]
  | d :: ds, h => by
    have := h d (by simp)
    have := rSs_all (n := n) (ds := ds) fun x hx => h x (by simp [hx])
    rw [rSs, List.length_cons, Nat.add_mul]
    omega
end Lw
namespace Lw
open PySem PySem.Spec PyProof.Rows L2 P
mutual
def ly : D → Bool
  | .non | .int _ | .bl _ => true
  | .str x => PyData.strOk x
  | .tup ds | .lst ds => lys ds
  | _ => false
def lys : List D → Bool
  | [] => true
  | d :: r => ly d && lys r
end
mutual
theorem ly_of : ∀ (d : D), ly d = true → ∃ p, toP d = some p ∧ p.canLay0 = true ∧ p.depth = rD d
  | .non, _ => ⟨_, rfl, rfl, by simp [PyData.depth, rD]⟩
  | .int i, _ => ⟨_, rfl, rfl, by simp [PyData.depth, rD]⟩
  | .bl i, _ => ⟨_, rfl, rfl, by simp [PyData.depth, rD]⟩
  | .str x, h => ⟨_, rfl, by simpa [ly, PyData.canLay0] using h, by simp [PyData.depth, rD]⟩
  | .tup ds, h => by
    obtain ⟨ps, h1, h2, h3⟩ := lys_of ds (by simpa [ly] using h)
    exact ⟨.tuple ps, by simp [toP, h1], by simpa [PyData.canLay0] using h2, by simp [PyData.depth, rD, h3]⟩
  | .lst ds, h => by
    obtain ⟨ps, h1, h2, h3⟩ := lys_of ds (by simpa [ly] using h)
    exact ⟨.list ps, by simp [toP, h1], by simpa [PyData.canLay0] using h2, by simp [PyData.depth, rD, h3]⟩
  | .dct _ _ _ _, h => by simp [ly] at h
  | .ins _ _ _, h => by simp [ly] at h
  | .cls _, h => by simp [ly] at h
  | .scr _, h => by simp [ly] at h
theorem lys_of : ∀ (ds : List D), lys ds = true → ∃ ps, toPs ds = some ps ∧ PyData.canLayAll0 ps = true ∧ PyData.depthAll ps = rDs ds
  | [], _ => ⟨[], rfl, rfl, by simp [PyData.depthAll, rDs]⟩
  | d :: r, h => by
    simp only [lys, Bool.and_eq_true] at h
    obtain ⟨p, h1, h2, h3⟩ := ly_of d h.1
    obtain ⟨ps, g1, g2, g3⟩ := lys_of r h.2
    exact ⟨p :: ps, by simp [toPs, h1, g1], by simp [PyData.canLayAll0, h2, g2], by simp [PyData.depthAll, rDs, h3, g3]⟩
end
mutual
def okE : D → Bool
  | .dct false _ [] [] => true
  | .tup ds | .lst ds => okEs ds
  | .int i => decide (i.natAbs.log2 < 1920)
  | .non | .bl _ | .str _ => true
  | _ => false
def okEs : List D → Bool
  | [] => true
  | d :: r => okE d && okEs r
end
mutual
def dpE : D → Nat
  | .tup ds | .lst ds => dpEs ds + 1
  | .dct _ _ _ _ => 1
  | _ => 0
def dpEs : List D → Nat
  | [] => 0
  | d :: r => max (dpE d) (dpEs r)
end
mutual
def lnE : D → Nat
  | .non => 4
  | .bl _ => 5
  | .int i => rI i
  | .str x => (reprText x).length
  | .tup ds | .lst ds => lnEs ds + 4
  | .dct _ _ _ _ => 2
  | _ => 0
def lnEs : List D → Nat
  | [] => 0
  | d :: r => lnE d + 2 + lnEs r
end
mutual
theorem lnE_of : ∀ (d : D), okE d = true → ∃ p, toPE d = some p ∧ p.showable = true ∧ p.depth ≤ dpE d ∧ p.shown.length ≤ lnE d
  | .non, h => by
    obtain ⟨p, h1, h2, h3, h4, h5⟩ := rS_of .non rfl
    cases h1
    exact ⟨_, rfl, h2, h4, h5⟩
  | .bl b, h => by
    obtain ⟨p, h1, h2, h3, h4, h5⟩ := rS_of (.bl b) rfl
    cases h1
    exact ⟨_, rfl, h2, h4, h5⟩
  | .int i, h => by
    obtain ⟨p, h1, h2, h3, h4, h5⟩ := rS_of (.int i) h
    cases h1
    exact ⟨_, rfl, h2, h4, h5⟩
  | .str x, h => by
    obtain ⟨p, h1, h2, h3, h4, h5⟩ := rS_of (.str x) rfl
    cases h1
    exact ⟨_, rfl, h2, h4, h5⟩
  | .tup ds, h => by
    obtain ⟨ps, h1, h2, h4, h5⟩ := lnEs_of ds (by simpa [okE] using h)
    refine ⟨.tuple ps, by simp [toPE, h1], by simpa [PyData.showable] using h2, by simp [PyData.depth, dpE]; exact h4, ?_⟩
    simp only [PyData.shown, lnE]
    exact Nat.le_trans (tupleText_len _) (by omega)
  | .lst ds, h => by
    obtain ⟨ps, h1, h2, h4, h5⟩ := lnEs_of ds (by simpa [okE] using h)
    refine ⟨.list ps, by simp [toPE, h1], by simpa [PyData.showable] using h2, by simp [PyData.depth, dpE]; exact h4, ?_⟩
    simp only [PyData.shown, lnE]
    exact Nat.le_trans (listText_len _) (by omega)
  | .dct false l [] [], h => ⟨.dict [], by simp only [toPE], by simp [PyData.showable, PyData.showableKv], by simp [PyData.depth, PyData.depthKv, dpE], by simp only [PyData.shown, PyData.shownKv, lnE]; decide +kernel⟩
  | .dct true _ _ _, h => by simp [okE] at h
  | .dct false _ (_ :: _) _, h => by simp [okE] at h
  | .dct false _ [] (_ :: _), h => by simp [okE] at h
  | .ins _ _ _, h => by simp [okE] at h
  | .cls _, h => by simp [okE] at h
  | .scr _, h => by simp [okE] at h
theorem lnEs_of : ∀ (ds : List D), okEs ds = true → ∃ ps, toPEs ds = some ps ∧ PyData.showableAll ps = true ∧ PyData.depthAll ps ≤ dpEs ds ∧ piled (PyData.shownAll ps) ≤ lnEs ds
  | [], _ => ⟨[], by simp only [toPEs], rfl, by simp [PyData.depthAll], by simp [PyData.shownAll, piled]⟩
  | d :: r, h => by
    simp only [okEs, Bool.and_eq_true] at h
    obtain ⟨p, h1, h2, h4, h5⟩ := lnE_of d h.1
    obtain ⟨ps, g1, g2, g4, g5⟩ := lnEs_of r h.2
    refine ⟨p :: ps, by simp [toPEs, h1, g1], by simp [PyData.showableAll, h2, g2], by simp only [PyData.depthAll, dpEs]; omega, ?_⟩
    simp only [PyData.shownAll, lnEs, piled_cons]
    omega
end
theorem rI_le (i : Int) : rI i ≤ 1921 := by unfold rI; split <;> omega
end Lw
namespace Lw
open PySem PySem.Spec PyProof.Rows L2 P
--V
abbrev T3 := Nat × Nat × Nat
abbrev SL := List (List Int × T3)
def shT (Rs : List RV) (t : T3) : List Int := shiftsL Rs t.1 t.2.1 t.2.2
def zerosL (Rs : List RV) : List Int := Rs.map fun _ => 0
def lkS : SL → List Int → Option T3
  | [], _ => none
  | (k, t) :: s, x => if k = x then some t else lkS s x
inductive StE where
  | go (s : SL)
  | en (ts : List T3)
def step1 (Rs : List RV) (s : SL) (t : T3) : StE :=
  if t.2.1 = t.2.2 then .go s
  else if shT Rs t = zerosL Rs then .en [t]
  else match lkS s (shT Rs t) with
    | none => .go (s ++ [(shT Rs t, t)])
    | some u => if u.1 = t.1 then .go s else .en [u, t]
def chS {α : Type} (f : α → SL → StE) : List α → SL → StE
  | [], s => .go s
  | x :: xs, s => match f x s with
    | .go s' => chS f xs s'
    | .en r => .en r
def allT (n b : Nat) : List T3 := (List.range n).flatMap fun p => (List.range b).flatMap fun o => (List.range b).map fun k => (p, o, k)
def runE (Rs : List RV) (n b : Nat) : StE := chS (fun t s => step1 Rs s t) (allT n b) []
def eqS (Rs : List RV) (n b : Nat) : Option (List T3) := match runE Rs n b with
  | .go _ => none
  | .en ts => some ts
structure StepOk (n b : Nat) (t : T3) : Prop where
  p : t.1 < n
  o : t.2.1 < b
  k : t.2.2 < b
  ne : t.2.1 ≠ t.2.2
structure SeenI (Rs : List RV) (pre : List T3) (s : SL) : Prop where
  old : ∀ t ∈ pre, t.2.1 ≠ t.2.2 → shT Rs t ≠ zerosL Rs ∧ ∃ u, lkS s (shT Rs t) = some u ∧ u.1 = t.1
  mem : ∀ k u, lkS s k = some u → u ∈ pre ∧ u.2.1 ≠ u.2.2 ∧ shT Rs u = k
end Lw
namespace Lw
open PySem PySem.Spec PyProof.Rows L2 P
--V
structure PlOk (size many : Nat) (Rs : List RV) : Prop where
  ok : ∀ R ∈ Rs, R.Ok
  b : ∀ R ∈ Rs, R.b = size
  n : ∀ R ∈ Rs, R.rows.length = many
end Lw
namespace Lw
open PySem PySem.Spec PyProof.Rows L2 P
--V
def allV (Rs : List RV) (c : List Nat) : Prop := ∀ R ∈ Rs, c ∈ VC R
structure Sim (size many : Nat) (R R' : RV) : Prop where
  vc : ∀ c, NCs size many c → (c ∈ VC R ↔ c ∈ VC R')
  sh : ∀ t u : T3, StepOk many size t → StepOk many size u → (shiftM R (.ch t.1) t.2.1 t.2.2 = shiftM R (.ch u.1) u.2.1 u.2.2 ↔ shiftM R' (.ch t.1) t.2.1 t.2.2 = shiftM R' (.ch u.1) u.2.1 u.2.2)
  z : ∀ t : T3, StepOk many size t → (shiftM R (.ch t.1) t.2.1 t.2.2 = 0 ↔ shiftM R' (.ch t.1) t.2.1 t.2.2 = 0)
theorem shT_zero {Rs : List RV} {t : T3} : shT Rs t = zerosL Rs ↔ ∀ R ∈ Rs, shiftM R (.ch t.1) t.2.1 t.2.2 = 0 := by
  unfold shT zerosL shiftsL
  exact List.map_inj_left
theorem shT_eq {Rs : List RV} {t u : T3} : shT Rs t = shT Rs u ↔ ∀ R ∈ Rs, shiftM R (.ch t.1) t.2.1 t.2.2 = shiftM R (.ch u.1) u.2.1 u.2.2 := by
  unfold shT shiftsL
  exact List.map_inj_left
structure Sims (size many : Nat) (Rs Rs' : List RV) : Prop where
  l : ∀ R ∈ Rs, ∃ R' ∈ Rs', Sim size many R R'
  r : ∀ R' ∈ Rs', ∃ R ∈ Rs, Sim size many R R'
theorem Sims.z {size many : Nat} {Rs Rs' : List RV} (h : Sims size many Rs Rs') {t : T3} (ht : StepOk many size t) : shT Rs t = zerosL Rs ↔ shT Rs' t = zerosL Rs' := by
  rw [shT_zero, shT_zero]
  constructor
  · intro a R' hR'
    obtain ⟨R, hR, s⟩ := h.r R' hR'
    exact (s.z t ht).mp (a R hR)
  · intro a R hR
    obtain ⟨R', hR', s⟩ := h.l R hR
    exact (s.z t ht).mpr (a R' hR')
theorem Sims.e {size many : Nat} {Rs Rs' : List RV} (h : Sims size many Rs Rs') {t u : T3} (ht : StepOk many size t) (hu : StepOk many size u) : shT Rs t = shT Rs u ↔ shT Rs' t = shT Rs' u := by
  rw [shT_eq, shT_eq]
  constructor
  · intro a R' hR'
    obtain ⟨R, hR, s⟩ := h.r R' hR'
    exact (s.sh t u ht hu).mp (a R hR)
  · intro a R hR
    obtain ⟨R', hR', s⟩ := h.l R hR
    exact (s.sh t u ht hu).mpr (a R' hR')
theorem Sims.v {size many : Nat} {Rs Rs' : List RV} (h : Sims size many Rs Rs') {c : List Nat} (hc : NCs size many c) : allV Rs c ↔ allV Rs' c := by
  constructor
  · intro a R' hR'
    obtain ⟨R, hR, s⟩ := h.r R' hR'
    exact (s.vc c hc).mp (a R hR)
  · intro a R hR
    obtain ⟨R', hR', s⟩ := h.l R hR
    exact (s.vc c hc).mpr (a R' hR')
structure Oth (size many m l e spot : Nat) (rows rows' : List (List Int)) : Prop where
  n : rows'.length = many
  ent : ∀ p < many, ∀ d < size, ∃ k : Int, (rows'.getD p []).getD d 0 = l * (rows.getD p []).getD d 0 + (if p = spot then e else 0 : Nat) + m * k
theorem Sim.refl (size many : Nat) (R : RV) : Sim size many R R := ⟨fun _ _ => Iff.rfl, fun _ _ _ _ => Iff.rfl, fun _ _ => Iff.rfl⟩
end Lw
namespace Lw
open PySem PySem.Spec PyProof.Rows L2 P
--V
end Lw
namespace Lw
open PySem PySem.Spec PyProof.Rows L2 P
namespace V
def jl : List (List Nat) → List Nat
  | [] => []
  | [w] => w
  | w :: w2 :: ws => w ++ 32 :: jl (w2 :: ws)
def cutsF (off : Nat) : List (List Nat) → List Nat
  | [] => []
  | [_] => []
  | w :: w2 :: ws => (off + w.length) :: cutsF (off + w.length + 1) (w2 :: ws)
theorem range'_app (s m n : Nat) : List.range' s (m + n) = List.range' s m ++ List.range' (s + m) n := by
  rw [List.range'_append_1]
theorem filt_none {A : List Nat} {off : Nat} {w post pre : List Nat} (hA : A = pre ++ (w ++ post)) (hp : pre.length = off) (hw : 32 ∉ w) : (List.range' off w.length).filter (fun i => A[i]? == some 32) = [] := by
  rw [List.filter_eq_nil_iff]
  intro i hi
  rw [List.mem_range'_1] at hi
  obtain ⟨h1, h2⟩ := hi
  have e : A[i]? = w[i - off]? := by
    rw [hA, List.getElem?_append_right (by omega), List.getElem?_append_left (by omega), hp]
  rw [e]
  intro h
  have h := eq_of_beq h
  exact hw (List.mem_of_getElem? h)
theorem filt_cuts : ∀ (ws : List (List Nat)) (off : Nat) (pre A : List Nat), ws ≠ [] → (∀ w ∈ ws, 32 ∉ w) → pre.length = off → A = pre ++ jl ws → (List.range' off (jl ws).length).filter (fun i => A[i]? == some 32) = cutsF off ws
  | [], _, _, _, h, _, _, _ => absurd rfl h
  | [w], off, pre, A, _, hw, hp, hA => filt_none (post := []) (by rw [hA, List.append_nil, jl]) hp (hw w (by simp))
  | w :: w2 :: ws, off, pre, A, _, hw, hp, hA => by
    have hA : A = pre ++ (w ++ 32 :: jl (w2 :: ws)) := hA
    have e1 : (jl (w :: w2 :: ws)).length = w.length + (1 + (jl (w2 :: ws)).length) := by
      show (w ++ 32 :: jl (w2 :: ws)).length = _
      rw [List.length_append, List.length_cons]; omega
    have ih := filt_cuts (w2 :: ws) (off + w.length + 1) (pre ++ (w ++ [32])) A (by simp) (fun x hx => hw x (by simp at hx ⊢; right; exact hx)) (by simp; omega) (by rw [hA]; simp)
    rw [e1, range'_app, range'_app, List.filter_append, List.filter_append, filt_none (post := 32 :: jl (w2 :: ws)) hA hp (hw w (by simp)), ih]
    have e2 : A[off + w.length]? = some 32 := by
      rw [hA, List.getElem?_append_right (by omega), List.getElem?_append_right (by omega)]
      rw [show off + w.length - pre.length - w.length = 0 by omega, List.getElem?_cons_zero]
    show [] ++ ((List.range' (off + w.length) 1).filter _ ++ _) = _
    rw [List.range'_one, List.filter_cons_of_pos (by rw [e2]; rfl)]
    rfl
def strN (w : List Nat) : Str := ⟨w.toArray⟩
theorem ext_mid {A : Array Nat} {pre w post : List Nat} (h : A.toList = pre ++ (w ++ post)) : Builtin.Str.strSub ⟨A⟩ pre.length (pre.length + w.length) = strN w := by
  unfold Builtin.Str.strSub strN
  congr 1
  apply Array.toList_inj.mp
  show (A.extract pre.length (pre.length + w.length)).toList = w
  rw [Array.toList_extract, h]
  simp [List.extract]
theorem parts_ws : ∀ (ws : List (List Nat)) (pre : List Nat) (A : Array Nat), ws ≠ [] → A.toList = pre ++ jl ws →
    ((pre.length :: (cutsF pre.length ws).map (· + 1)).zip (cutsF pre.length ws ++ [A.size])).map (fun p => Builtin.Str.strSub ⟨A⟩ p.1 p.2) = ws.map strN
  | [], _, _, h, _ => absurd rfl h
  | [w], pre, A, _, hA => by
    have hs : A.size = pre.length + w.length := by
      have := congrArg List.length hA
      rw [Array.length_toList, List.length_append] at this
      exact this
    show [Builtin.Str.strSub ⟨A⟩ pre.length A.size] = [strN w]
    rw [hs, ext_mid (post := []) (by rw [hA, List.append_nil]; rfl)]
  | w :: w2 :: ws, pre, A, _, hA => by
    have hA : A.toList = pre ++ (w ++ 32 :: jl (w2 :: ws)) := hA
    have ih := parts_ws (w2 :: ws) (pre ++ (w ++ [32])) A (by simp) (by rw [hA]; simp)
    have el : (pre ++ (w ++ [32])).length = pre.length + w.length + 1 := by simp; omega
    rw [el] at ih
    show Builtin.Str.strSub ⟨A⟩ pre.length (pre.length + w.length) :: (((pre.length + w.length + 1) :: (cutsF (pre.length + w.length + 1) (w2 :: ws)).map (· + 1)).zip (cutsF (pre.length + w.length + 1) (w2 :: ws) ++ [A.size])).map _ = _
    rw [ih, ext_mid hA]
    rfl
theorem take1_drop {l : List Nat} {i : Nat} (h : i < l.length) : (l.drop i).take 1 = [l[i]] := by rw [List.drop_eq_getElem_cons h]; rfl
theorem occ_fold (s : Str) (c hi limit : Nat) : ∀ (n lo : Nat) (found : Array Nat) (free : Nat), free ≤ lo → found.size ≤ lo → lo + n ≤ hi + 1 → hi < limit → hi = s.cps.size →
    (forIn (List.range' lo n) (found, free) (StrLaws.occBody s ⟨#[c]⟩ hi limit)).run.fst.toList = found.toList ++ (List.range' lo n).filter (fun i => s.cps.toList[i]? == some c)
  | 0, lo, found, free, _, _, _, _, _ => by simp
  | n + 1, lo, found, free, h1, h2, h3, h4, h5 => by
    rw [List.range'_succ, List.forIn_cons]
    unfold StrLaws.occBody
    have l1 : (⟨#[c]⟩ : Str).length = 1 := rfl
    rw [l1]
    by_cases hc : s.cps.toList[lo]? = some c
    · have hlt : lo < s.cps.size := by
        have := (List.getElem?_eq_some_iff.mp hc).1
        simpa using this
      have hsub : Builtin.Str.subAt s ⟨#[c]⟩ lo = true := by
        unfold Builtin.Str.subAt
        rw [l1]
        have : s.cps.extract lo (lo + 1) = #[c] := by
          apply Array.toList_inj.mp
          rw [Array.toList_extract]
          rw [List.extract, show lo + 1 - lo = 1 by omega]
          rw [take1_drop (by simpa using hlt)]
          have := (List.getElem?_eq_some_iff.mp hc).2
          rw [this]
        rw [this]; exact beq_self_eq_true _
      rw [if_pos ⟨⟨⟨by show found.size < limit; omega, h1⟩, by omega⟩, hsub⟩]
      have := occ_fold s c hi limit n (lo + 1) (found.push lo) (lo + 1) (by omega) (by simp; omega) (by omega) h4 h5
      rw [List.filter_cons_of_pos (by rw [hc]; simp)]
      unfold StrLaws.occBody at this
      rw [l1] at this
      refine this.trans ?_
      simp
    · have hsub : ¬ (((found.size < limit ∧ free ≤ lo) ∧ lo + 1 ≤ hi) ∧ Builtin.Str.subAt s ⟨#[c]⟩ lo = true) := by
        rintro ⟨⟨_, hlt⟩, hs⟩
        unfold Builtin.Str.subAt at hs
        rw [l1] at hs
        have e := eq_of_beq hs
        have e := congrArg Array.toList e
        rw [Array.toList_extract, List.extract, show lo + 1 - lo = 1 by omega, take1_drop (by simp; omega)] at e
        apply hc
        rw [List.getElem?_eq_getElem (by simp; omega)]
        simp at e
        simpa using e
      rw [if_neg hsub]
      have := occ_fold s c hi limit n (lo + 1) found free (by omega) (by omega) (by omega) h4 h5
      rw [List.filter_cons_of_neg (by simpa using hc)]
      unfold StrLaws.occBody at this
      rw [l1] at this
      exact this
theorem occ_one (s : Str) (c : Nat) : Builtin.Str.occurrences s ⟨#[c]⟩ 0 s.length (s.length + 1) = (List.range' 0 s.cps.size).filter (fun i => s.cps.toList[i]? == some c) := by
  rw [StrLaws.occ_eq]
  have := occ_fold s c s.length (s.length + 1) (s.length + 1) 0 #[] 0 (by omega) (by simp) (by omega) (by omega) rfl
  refine this.trans ?_
  show [] ++ _ = _
  rw [List.nil_append]
  show (List.range' 0 (s.cps.size + 1)).filter _ = _
  rw [range'_app, List.filter_append]
  rw [show (List.range' (0 + s.cps.size) 1).filter (fun i => s.cps.toList[i]? == some c) = [] by simp]
  rw [List.append_nil]
theorem split_ws {ws : List (List Nat)} (hne : ws ≠ []) (hw : ∀ w ∈ ws, 32 ∉ w) : Txt.split (strN (jl ws)) " " = ws.map strN := by
  have hsp : (Str.ofString " ") = ⟨#[32]⟩ := by decide
  show Txt.split (strN (jl ws)) (Str.ofString " ") = _
  rw [hsp]
  have hocc := occ_one (strN (jl ws)) 32
  have ht : (strN (jl ws)).cps.toList = jl ws := rfl
  have hsz : (strN (jl ws)).cps.size = (jl ws).length := by simp [strN]
  rw [ht, hsz, filt_cuts ws 0 [] (jl ws) hne hw rfl rfl] at hocc
  have hpart := parts_ws ws [] (jl ws).toArray hne rfl
  have hpart : Builtin.Str.partsBetween (strN (jl ws)) (cutsF 0 ws) 1 = ws.map strN := by
    rw [← hpart]; rfl
  unfold Txt.split
  rw [hocc]
  have l1 : (⟨#[32]⟩ : Str).length = 1 := rfl
  have k1 : ¬ Builtin.Str.strKind (strN (jl ws)) < Builtin.Str.strKind ⟨#[32]⟩ := by
    have : Builtin.Str.strKind ⟨#[32]⟩ = 1 := by decide +kernel
    rw [this]
    unfold Builtin.Str.strKind
    split
    · omega
    · split <;> omega
  rw [l1]
  match ws, hne, hpart with
  | [w], _, hp =>
    have hlast : (if (cutsF 0 [w]).isEmpty = true then [strN (jl [w])] else Builtin.Str.partsBetween (strN (jl [w])) (cutsF 0 [w]) 1) = [w].map strN := rfl
    split
    · rfl
    · exact hlast
  | w :: w2 :: rest, _, hp =>
    have hlen : ¬ (strN (jl (w :: w2 :: rest))).length < 1 := by
      show ¬ (w ++ 32 :: jl (w2 :: rest)).toArray.size < 1
      simp
    rw [decide_eq_false hlen, decide_eq_false k1]
    rw [if_neg (by simp)]
    rw [if_neg (by simp [cutsF])]
    exact hp
end V
end Lw
namespace Lw
open PySem PySem.Spec PyProof.Rows L2 P
namespace V
def dg (n : Nat) : List Nat := (Str.ofString (toString (n : Int))).cps.toList
abbrev FIG : Str := "0123456789"
def chkN (n : Nat) : Bool := decide (1 ≤ (dg n).length) && decide ((dg n).length ≤ 3) && (dg n).all (fun c => decide (c ∈ FIG.cps.toList) && decide (c ≠ 32)) && (decide (dg n = [48]) || decide ((dg n).head? ≠ some 48)) && decide (PySem.intText? (strN (dg n)) = some (n : Int))
theorem chk_all : ∀ n < 201, chkN n = true := by decide +kernel
theorem strN_dg (n : Nat) : strN (dg n) = Str.ofString (toString (n : Int)) := by
  unfold strN dg
  rw [Array.toArray_toList]
theorem glueL : ∀ (ws : List (List Nat)) (a : Array Nat), ((ws.map strN).foldl (fun acc (p : Str) => acc ++ (Str.ofString " ").cps ++ p.cps) a).toList = a.toList ++ ws.flatMap (fun w => 32 :: w)
  | [], a => by simp
  | w :: ws, a => by
    rw [List.map_cons, List.foldl_cons, glueL ws]
    have e : (Str.ofString " ").cps = #[32] := by decide
    rw [e]
    simp [strN]
theorem jl_flat : ∀ (ws : List (List Nat)) (w : List Nat), jl (w :: ws) = w ++ ws.flatMap (fun w => 32 :: w)
  | [], w => by simp [jl]
  | w2 :: ws, w => by
    show w ++ 32 :: jl (w2 :: ws) = _
    rw [jl_flat ws w2]
    simp
theorem join_ws (ws : List (List Nat)) : Txt.join " " (ws.map strN) = strN (jl ws) := by
  have key : ∀ a b : Array Nat, a.toList = b.toList → (⟨a⟩ : Str) = ⟨b⟩ := fun a b h => by rw [Array.toList_inj.mp h]
  cases ws with
  | nil => decide
  | cons w ws =>
    refine key _ _ ?_
    show (((List.map strN (w :: ws)).drop 1).foldl (fun acc (p : Str) => acc ++ (Str.ofString " ").cps ++ p.cps) (((w :: ws).map strN).headD Str.empty).cps).toList = _
    rw [List.map_cons, List.drop_succ_cons, List.drop_zero, List.headD_cons, glueL, jl_flat]
    rfl
theorem asStrs_mp {α : Type} (f : α → Str) (xs : List α) : asStrs (xs.map fun x => D.str (f x)) = some (xs.map f) := by
  induction xs with
  | nil => rfl
  | cons x xs ih => simp [asStrs, ih]
theorem joinD_nums {ns : List Nat} (hn : ∀ n ∈ ns, n < 201) (hl : ns.length ≤ 1000) : joinD " " (.lst (ns.map fun n => D.str (strN (dg n)))) = some (.str (strN (jl (ns.map dg)))) := by
  have ea : asStrs (ns.map fun n => D.str (strN (dg n))) = some (ns.map fun n => strN (dg n)) := asStrs_mp (fun n => strN (dg n)) ns
  have e1 : ∀ l : List Nat, (∀ n ∈ l, n < 201) → ((l.map fun n => strN (dg n)).map fun x : Str => x.length).sum ≤ 3 * l.length := fun l => by
    induction l with
    | nil => intro _; simp
    | cons n l ih =>
      intro h
      have := ih fun m hm => h m (by simp [hm])
      have c := chk_all n (h n (by simp))
      simp only [chkN, Bool.and_eq_true, decide_eq_true_eq] at c
      have c2 := c.1.1.1.2
      rw [List.map_cons, List.map_cons, List.sum_cons, List.length_cons]
      have : (strN (dg n)).length = (dg n).length := by simp [strN, Str.length]
      omega
  have e2 : (Str.ofString " ").length = 1 := by decide
  show (match asStrs (ns.map fun n => D.str (strN (dg n))) with | some ys => if (ys.map fun x : Str => x.length).sum + ys.length * (Str.ofString " ").length ≤ 1000000 then some (D.str (Txt.join " " ys)) else none | none => none) = _
  rw [ea]
  show (if ((ns.map fun n => strN (dg n)).map fun x : Str => x.length).sum + (ns.map fun n => strN (dg n)).length * (Str.ofString " ").length ≤ 1000000 then some (D.str (Txt.join " " (ns.map fun n => strN (dg n)))) else none) = _
  have := e1 ns hn
  rw [if_pos (by rw [List.length_map, e2]; omega), show (ns.map fun n => strN (dg n)) = (ns.map dg).map strN by rw [List.map_map]; rfl, join_ws]
theorem splitD_nums {ns : List Nat} (hn : ∀ n ∈ ns, n < 201) (hl : ns.length ≤ 1000) (h1 : ns ≠ []) : splitD (strN (jl (ns.map dg))) (.str " ") = some (ns.map fun n => .str (strN (dg n))) := by
  have hw : ∀ w ∈ ns.map dg, 32 ∉ w := fun w hw => by
    obtain ⟨n, hm, rfl⟩ := List.mem_map.mp hw
    have c := chk_all n (hn n hm)
    simp only [chkN, Bool.and_eq_true, decide_eq_true_eq, List.all_eq_true] at c
    intro h
    exact (c.1.1.2 32 h).2 rfl
  have es := split_ws (ws := ns.map dg) (by simpa using h1) hw
  have hlen : ∀ l : List Nat, (∀ n ∈ l, n < 201) → (jl (l.map dg)).length ≤ 4 * l.length := fun l => by
    cases l with
    | nil => intro _; simp [jl]
    | cons a l =>
      intro h
      have hd : ∀ n < 201, (dg n).length ≤ 3 := fun n hn => by
        have c := chk_all n hn
        simp only [chkN, Bool.and_eq_true, decide_eq_true_eq] at c
        exact c.1.1.1.2
      have hf : ∀ l : List Nat, (∀ n ∈ l, n < 201) → ((l.map dg).flatMap fun w => 32 :: w).length ≤ 4 * l.length := fun l => by
        induction l with
        | nil => intro _; simp
        | cons n l ih =>
          intro h
          have := ih fun m hm => h m (by simp [hm])
          have := hd n (h n (by simp))
          simp only [List.map_cons, List.flatMap_cons, List.length_append, List.length_cons]
          omega
      have := hf l fun m hm => h m (by simp [hm])
      have := hd a (h a (by simp))
      rw [List.map_cons, jl_flat, List.length_append, List.length_cons]
      omega
  have hl2 := hlen ns hn
  have l0 : ((Str.ofString " ").length == 0) = false := by decide
  have hsz : (strN (jl (ns.map dg))).length ≤ 900000 := by
    have : (strN (jl (ns.map dg))).length = (jl (ns.map dg)).length := by simp [strN, Str.length]
    omega
  show (if ((Str.ofString " ").length == 0) = false ∧ (strN (jl (ns.map dg))).length ≤ 900000 then some ((Txt.split (strN (jl (ns.map dg))) " ").map D.str) else none) = _
  rw [if_pos ⟨l0, hsz⟩, es, List.map_map, List.map_map]
  rfl
end V
end Lw
namespace Lw
open PySem PySem.Spec PyProof.Rows L2 P
namespace V
def n55_0 : S := (setS 1 (vl (bop ixD (fzM (lstM (consA (cst (.int 2)) (consA (cst (.int 10)) (consA (bop addD (cst (.int 2)) (fzM (callMM fm_law_coin [some 0, none] (ownA 0 (consA (cst (.int 35)) nilA))))) (consA (cst (.int 36)) nilA)))))) (fzM (callMM fm_law_coin [some 0, none] (ownA 0 (consA (cst (.int 4)) nilA)))))))
def n55_1 : S := (setS 2 (vl (bop ixD (fzM (lstM (consA (bop addD (cst (.int 2)) (fzM (callMM fm_law_coin [some 0, none] (ownA 0 (consA (cst (.int 14)) nilA))))) (consA (var 1) (consA (bop addD (cst (.int 2)) (fzM (callMM fm_law_coin [some 0, none] (ownA 0 (consA (cst (.int 199)) nilA))))) (consA (cst (.int 200)) nilA)))))) (fzM (callMM fm_law_coin [some 0, none] (ownA 0 (consA (cst (.int 4)) nilA)))))))
def n55_2 : S := (setS 3 (lstM nilA))
def n55_3 : S := (forS (iterA rng1 (consA (bop ixD (fzM (lstM (consA (bop addD (cst (.int 1)) (fzM (callMM fm_law_coin [some 0, none] (ownA 0 (consA (cst (.int 8)) nilA))))) (consA (bop addD (cst (.int 1)) (fzM (callMM fm_law_coin [some 0, none] (ownA 0 (consA (cst (.int 30)) nilA))))) (consA (cst (.int 30)) nilA))))) (fzM (callMM fm_law_coin [some 0, none] (ownA 0 (consA (cst (.int 3)) nilA))))) nilA)) (bName 4) fb_law_numbers_1)
def n55_4 : S := (retS (vl (tupM (consA (var 1) (consA (var 2) (consA (callB tupleD (consA (var 3) nilA)) (consA (bop ixD (fzM (lstM (consA (cst (.int 0)) (consA (fzM (callMM fm_law_coin [some 0, none] (ownA 0 (consA (var 2) nilA)))) nilA)))) (fzM (callMM fm_law_coin [some 0, none] (ownA 0 (consA (cst (.int 2)) nilA))))) nilA)))))))
theorem n55_eq : m_law_numbers = (seqS n55_0 (seqS n55_1 (seqS n55_2 (seqS n55_3 (frzS 3 n55_4))))) := rfl
def b55_0 : S := (setS 5 (lstM (consA (fzM (callMM fm_law_coin [some 0, none] (ownA 0 (consA (var 2) nilA)))) (consA (cst (.int 0)) (consA (cst (.int 1)) (consA (bop subD (var 2) (cst (.int 1))) (consA (var 2) (consA (bop subD (cst (.int 0)) (fzM (callMM fm_law_coin [some 0, none] (ownA 0 (consA (cst (.int 999)) nilA))))) nilA))))))))
def b55_1 : S := (dropS (vl (appM 5 (fzM (callMM fm_law_coin [some 0, none] (ownA 0 (consA (bop powD (cst (.int 10)) (cst (.int 59))) nilA)))))))
def b55_2 : S := (dropS (vl (appM 3 (ixO 5 (fzM (callMM fm_law_coin [some 0, none] (ownA 0 (consA (lenO 5) nilA))))))))
theorem b55_eq : fb_law_numbers_1 = (fgt [4] (seqS b55_0 (seqS b55_1 b55_2))) := rfl
def r55_0 : S := (unpS (bTup [(bName 1), (bName 2), (bName 3), (bName 4)]) (var 0))
def r55_1 : S := (setS 5 (vl (fzM (callM fr_law_page 1 0 (fun ds _ => ds) (consA (var 0) nilA) nilA))))
def r55_2 : S := (setS 6 (vl (fzM (callM fr_law_lines 1 0 (fun ds _ => ds) (consA (var 0) nilA) nilA))))
def r55_3 : S := (setS 7 (vl (callB reprD (consA (var 0) nilA))))
def r55_4 : S := (setS 8 (lstM (consA (fzM (callM fr_p_format_weights 4 0 (fun ds _ => ds) (consA (var 1) (consA (var 2) (consA (var 3) (consA (var 4) nilA)))) nilA)) nilA)))
def r55_5 : S := (unpS (bTup [(bName 9), (bName 10), (bName 11), (bName 12)]) (var 0))
def r55_6 : S := (dropS (vl (appM 8 (fzM (callM fr_p_format_weights 0 4 (fun ds es => pick [3, 2, 1, 0] (ds ++ es)) nilA (consA (var 12) (consA (var 11) (consA (var 10) (consA (var 9) nilA)))))))))
def r55_7 : S := (frzS 8 (ifS (orB (tst (bop neD (callB reprD (consA (var 8) nilA)) (callB reprD (consA (fzM (lstM (consA (var 5) (consA (var 5) nilA)))) nilA)))) (tst (bop neD (callB reprD (consA (var 0) nilA)) (var 7)))) (retS (vl (cst (.bl false)))) nop))
def r55_8 : S := (forS (iterM itA (fzM (lstM (consA (fzM (callM fr_p_parse_weights 1 0 (fun ds _ => ds) (consA (var 5) nilA) nilA)) (consA (fzM (callM fr_p_parse_weights 0 1 (fun ds es => pick [0] (ds ++ es)) nilA (consA (var 5) nilA))) nilA))))) (bName 13) fb_law_right_1)
def r55_9 : S := (retS (vl (cst (.bl true))))
theorem r55_eq : m_law_right = (seqS r55_0 (seqS r55_1 (seqS r55_2 (seqS r55_3 (seqS r55_4 (seqS r55_5 (seqS r55_6 (seqS r55_7 (seqS r55_8 r55_9))))))))) := rfl
def f55_0 : S := (setS 14 (vl (fzM (lstM (consA (fzM (propM "Rule" fr_p_Rule_modulus (var 13))) (consA (fzM (propM "Rule" fr_p_Rule_rows (var 13))) (consA (fzM (propM "Rule" fr_p_Rule_remainder (var 13))) (consA (fzM (propM "Rule" fr_p_Rule_base (var 13))) (consA (callB (lenI "Rule" fr_p_Rule___len__) (consA (var 13) nilA)) nilA)))))))))
def f55_1 : S := (ifS (tst (bop neD (callB reprD (consA (var 14) nilA)) (callB reprD (consA (fzM (lstM (consA (var 2) (consA (var 6) (consA (var 4) (consA (var 1) (consA (callB lenD (consA (var 3) nilA)) nilA))))))) nilA)))) (retS (vl (cst (.bl false)))) nop)
def f55_2 : S := (setS 15 (vl (fzM (cmM "Rule" fr_p_Rule_weighted 4 0 (fun ds es => pick [0, 1, 2, 3, 4] (ds ++ es ++ [.int 0])) (consA (var 1) (consA (var 2) (consA (var 3) (consA (var 4) nilA)))) nilA))))
def f55_3 : S := (ifS (orB (notB (tst (bop (cmpI "Rule" fr_p_Rule___eq__ false) (var 13) (fzM (makeM "Rule" fm_p_Rule___init__ 3 0 (fun ds es => pick [0, 1, 2] (ds ++ es)) (consA (var 2) (consA (var 6) (consA (var 4) nilA))) nilA))))) (notB (tst (bop (cmpI "Rule" fr_p_Rule___eq__ false) (var 13) (var 15))))) (retS (vl (cst (.bl false)))) nop)
theorem f55_eq : fb_law_right_1 = (fgt [13, 14, 15] (seqS f55_0 (seqS f55_1 (seqS f55_2 f55_3)))) := rfl
def w55_0 : S := (setS 1 (lstM nilA))
def w55_1 : S := (forS (iterA enum1 (consA (fzM (strN1 splitD (var 0) (cst (.str " ")))) nilA)) (bTup [(bName 2), (bName 3)]) fb_p_read_weights_T_1)
def w55_2 : S := (retS (vl (tupM (consA (var 1) (consA (cond (tst (bop gtD (callB lenD (consA (var 1) nilA)) (cst (.int 3)))) (cst .non) (callB lenD (consA (var 1) nilA))) nilA)))))
theorem w55_eq : m_p_read_weights_T = (seqS w55_0 (seqS w55_1 (frzS 1 w55_2))) := rfl
def d55_0 : S := (setS 2 (callM fr_law_purse 2 0 (fun ds _ => ds) (consA (var 0) (consA (var 1) nilA)) nilA))
def d55_1 : S := (forS (iterA rng1 (consA (cst (.int 4)) nilA)) (bName 3) fb_p_law_1)
theorem d55_eq : fb_p_law_2 = (fgt [1, 3] (seqS d55_0 d55_1)) := rfl
def e55_0 : S := (forS (iterA rng1 (consA (callB max2D (consA (cst (.int 1)) (consA (callB min2D (consA (cst (.int 6)) (consA (callB lenD (consA (var 0) nilA)) nilA))) nilA))) nilA)) (bName 1) fb_p_law_2)
def e55_1 : S := (ifS (orB (notB (tst (fzM (callM fr_law_right 1 0 (fun ds _ => ds) (consA (tupM (consA (cst (.int 36)) (consA (cst (.int 200)) (consA (bop mulD (tupM (consA (cst (.int 199)) nilA)) (cst (.int 30))) (consA (cst (.int 199)) nilA))))) nilA) nilA)))) (notB (tst (fzM (callM fr_law_right 1 0 (fun ds _ => ds) (consA (tupM (consA (cst (.int 2)) (consA (cst (.int 2)) (consA (tupM (consA (uop negD (cst (.int 1))) nilA)) (consA (cst (.int 1)) nilA))))) nilA) nilA))))) (retS (vl (cst (.bl false)))) nop)
def e55_2 : S := (retS (vl (andV (bop eqD (fzM (callM fr_p_format_weights 4 0 (fun ds _ => ds) (consA (cst (.int 10)) (consA (cst (.int 11)) (consA (tupM (consA (cst (.int 1)) (consA (cst (.int 2)) (consA (cst (.int 14)) nilA)))) (consA (cst (.int 0)) nilA)))) nilA)) (cst (.str "10 11 0 1 2 3"))) (bop eqD (callB (lenI "Rule" fr_p_Rule___len__) (consA (fzM (callM fr_p_parse_weights 1 0 (fun ds _ => ds) (consA (cst (.str "2 2 0 0")) nilA) nilA)) nilA)) (cst (.int 1))))))
theorem e55_eq : m_p_law = (seqS e55_0 (seqS e55_1 e55_2)) := rfl
-- theorem get_lap {n i : Nat} {d : D} (h : (rngL 0 n)[i]? = some d) : i < n ∧ d = .int (i : Int) 
theorem nm1 {x0 x1 : P.Slot} {c : Nat} (h : c ∈ FIG.cps.toList) : lm_p_number_in_T_1 [x0, x1, .val (.str ⟨#[c]⟩)] = .ok (.bl true) [x0, x1, .val (.str ⟨#[c]⟩)] := by
  have e : inT (.str ⟨#[c]⟩) (.str "0123456789") = some (.bl true) := by
    show some (D.bl (decide (c ∈ FIG.cps.toList))) = _
    rw [decide_eq_true h]
  simp (disch := omega) [-List.map_map, List.getElem?_cons_zero, List.getElem?_cons_succ, withL, Out.fm, P.mkArgs, P.putAll, lm_p_number_in_T_1, e]
theorem strN_len (w : List Nat) : (strN w).length = w.length := by simp [strN, Str.length]
theorem v_number {n : Nat} (hn : n < 201) : fr_p_number_in_T [.str (strN (dg n)), .int 3] = .ok (.val (.int (n : Int))) := by
  have c := chk_all n hn
  simp only [chkN, Bool.and_eq_true, decide_eq_true_eq, List.all_eq_true, Bool.or_eq_true] at c
  obtain ⟨⟨⟨⟨h1, h2⟩, h3⟩, h4⟩, h5⟩ := c
  have key := lcL_all (vs := [2]) (b := bName 2) (m := lm_p_number_in_T_1) (ρ := [.val (.str (strN (dg n))), .val (.int 3), .unb]) (fun c : Nat => D.str ⟨#[c]⟩) D.bl (fun _ => true) (dg n) (fun c hc => ⟨_, rfl, nm1 (h3 c hc).1, rfl⟩)
  have ei : itS (.str (strN (dg n))) = some ((dg n).map fun c : Nat => D.str ⟨#[c]⟩) := by
    show some (charsD (strN (dg n))) = _
    unfold charsD strN
    rw [List.toList_toArray]
  have hl : ((dg n).map fun c : Nat => D.str ⟨#[c]⟩).length ≤ 16777216 := by rw [List.length_map]; omega
  have el : lenD [.str (strN (dg n))] = some (.int ((dg n).length : Int)) := by
    show (if (strN (dg n)).length ≤ 1000000 then some (D.int ((strN (dg n)).length : Int)) else none) = _
    rw [strN_len, if_pos (by omega)]
  have ea : allD [.lst (((dg n).map fun _ => true).map D.bl)] = some (.bl true) := by
    rw [allD_map]; simp
  have et : intTD [.str (strN (dg n))] = some (.int (n : Int)) := by
    show (if (strN (dg n)).length ≤ 640 then (PySem.intText? (strN (dg n))).map D.int else none) = _
    rw [if_pos (by rw [strN_len]; omega), h5]; rfl
  obtain ⟨c0, hc0⟩ : ∃ c0, (dg n)[0]? = some c0 := ⟨_, List.getElem?_eq_getElem (by omega)⟩
  have ex : ixD (.str (strN (dg n))) (.int 0) = some (.str ⟨#[c0]⟩) := by
    have e : atI (strN (dg n)).cps.toList 0 = some c0 := by
      show atI (dg n) 0 = some c0
      unfold atI
      rw [ixN_nn (by omega) (by omega)]
      exact hc0
    show (if (strN (dg n)).length ≤ 1000000 then (atI (strN (dg n)).cps.toList 0).map fun c => D.str ⟨#[c]⟩ else none) = _
    rw [if_pos (by rw [strN_len]; omega), e]; rfl
  have l1 : (1 : Int) ≤ ((dg n).length : Int) := by omega
  have l3 : ((dg n).length : Int) ≤ 3 := by omega
  have hz : (Str.ofString "0") = ⟨#[48]⟩ := by decide
  have e1 : eqD (.str ⟨#[c0]⟩) (.str "0") = some (.bl (decide (c0 = 48))) := by
    show some (D.bl (decide ((⟨#[c0]⟩ : Str) = Str.ofString "0"))) = _
    rw [hz]
    congr 2
    exact decide_eq_decide.mpr ⟨fun h => by simpa using h, fun h => by rw [h]⟩
  have e2 : neD (.str (strN (dg n))) (.str "0") = some (.bl (!decide (dg n = [48]))) := by
    show some (D.bl (!decide ((strN (dg n)) = Str.ofString "0"))) = _
    rw [hz]
    congr 3
    refine decide_eq_decide.mpr ⟨fun h => ?_, fun h => by rw [h]; rfl⟩
    have := congrArg (fun x : Str => x.cps.toList) h
    simpa [strN] using this
  have hd : (dg n).head? = some c0 := by rw [List.head?_eq_getElem?]; exact hc0
  have hcase : decide (c0 = 48) = false ∨ decide (dg n = [48]) = true := by
    rcases h4 with h | h
    · exact .inr (decide_eq_true h)
    · refine .inl (decide_eq_false fun hc => h ?_)
      rw [hd, hc]
  generalize (dg n).map (fun c : Nat => D.str ⟨#[c]⟩) = CL at *
  generalize ((dg n).map fun _ => true).map D.bl = BL at *
  generalize ((dg n).length : Int) = L at *
  generalize strN (dg n) = W at *
  generalize decide (c0 = 48) = q1 at *
  generalize decide (dg n = [48]) = q2 at *
  rcases hcase with rfl | rfl
  · simp (disch := omega) [-List.map_map, List.getElem?_cons_zero, List.getElem?_cons_succ, withL, Out.fm, P.mkArgs, P.putAll, fr_p_number_in_T, runP, m_p_number_in_T, el, l1, l3, ei, hl, key, ea, ex, e1, et]
  · simp (disch := omega) [-List.map_map, List.getElem?_cons_zero, List.getElem?_cons_succ, withL, Out.fm, P.mkArgs, P.putAll, fr_p_number_in_T, runP, m_p_number_in_T, el, l1, l3, ei, hl, key, ea, ex, e1, e2, et]
def rwE (T : D) (FL : List D) (x2 x3 : P.Slot) : P.Env := [.val T, .ownL (FL.map .val), x2, x3, .unb, .unb, .unb]
structure NsOk (ns : List Nat) : Prop where
  l : 4 ≤ ns.length
  u : ns.length ≤ 33
  b : ∃ b m rest, ns = b :: m :: rest ∧ 2 ≤ b ∧ b ≤ 36 ∧ 2 ≤ m ∧ m ≤ 200 ∧ ∀ x ∈ rest, x < m
theorem NsOk.lt {ns : List Nat} (h : NsOk ns) : ∀ n ∈ ns, n < 201 := by
  obtain ⟨_, _, b, m, rest, rfl, h1, h2, h3, h4, h5⟩ := h
  intro n hn
  simp only [List.mem_cons] at hn
  rcases hn with rfl | rfl | hn
  · omega
  · omega
  · have := h5 n hn; omega
theorem rw1 {T : D} {FL : List D} {i n lo hi : Int} {w : Str} (e1 : fr_p_number_in_T [.str w, .int 3] = .ok (.val (.int n))) (hi33 : ¬ i = 33) (h2 : 2 ≤ i) {m : Int} (em : atI FL 1 = some (.int m)) (h0 : 0 ≤ n) (hm : n ≤ m - 1) (hl : FL.length < 1000000) :
    fb_p_read_weights_T_1 (rwE T FL (.val (.int i)) (.val (.str w))) = .nx (rwE T (FL ++ [.int n]) .unb .unb) := by
  have hi2 : ¬ i < 2 := by omega
  have ei := v_is_integer n 0 (m - 1)
  rw [decide_eq_true h0, decide_eq_true hm] at ei
  unfold rwE
  simp (disch := omega) [-List.map_map, List.getElem?_cons_zero, List.getElem?_cons_succ, withL, Out.fm, P.mkArgs, P.putAll, fb_p_read_weights_T_1, e1, hi33, hi2, em, ei, hl, bList, bName]
theorem rw0 {T : D} {FL : List D} {i n hi : Int} {w : Str} (e1 : fr_p_number_in_T [.str w, .int 3] = .ok (.val (.int n))) (hi33 : ¬ i = 33) (h2 : i < 2) (eh : ixD (.lst [.int 36, .int 200]) (.int i) = some (.int hi)) (h0 : 2 ≤ n) (hm : n ≤ hi) (hl : FL.length < 1000000) :
    fb_p_read_weights_T_1 (rwE T FL (.val (.int i)) (.val (.str w))) = .nx (rwE T (FL ++ [.int n]) .unb .unb) := by
  have ei := v_is_integer n 2 hi
  rw [decide_eq_true h0, decide_eq_true hm] at ei
  unfold rwE
  simp (disch := omega) [-List.map_map, List.getElem?_cons_zero, List.getElem?_cons_succ, withL, Out.fm, P.mkArgs, P.putAll, fb_p_read_weights_T_1, e1, hi33, h2, eh, ei, hl, bList, bName]
theorem v_read {ns : List Nat} (h : NsOk ns) : fr_p_read_weights_T [.str (strN (jl (ns.map dg)))] = .ok (.val (.tup [.lst (ns.map iN), .non])) := by
  have lt := h.lt
  obtain ⟨h4, h33, b, m, rest, hns, b2, b36, m2, m200, hr⟩ := h
  have hne : ns ≠ [] := by rw [hns]; simp
  have es := splitD_nums lt (by omega) hne
  have en : enum1 [.lst (ns.map fun n => D.str (strN (dg n)))] = some (enumD (ns.map fun n => D.str (strN (dg n)))) := rfl
  have hlen : (enumD (ns.map fun n => D.str (strN (dg n)))).length = ns.length := by rw [enumD_len, List.length_map]
  obtain ⟨_, lp, rfl⟩ := forL_inv (b := bTup [(bName 2), (bName 3)]) (body := fb_p_read_weights_T_1) (enumD (ns.map fun n => D.str (strN (dg n)))) (fun i ρ => ρ = rwE (.str (strN (jl (ns.map dg)))) ((ns.take i).map iN) .unb .unb) (by
    rintro i d ρ hd rfl
    obtain ⟨x, hx, rfl⟩ := enumD_get hd
    rw [List.getElem?_map, Option.map_eq_some_iff] at hx
    obtain ⟨n, ho, rfl⟩ := hx
    have hi := (List.getElem?_eq_some_iff.mp ho).1
    have hm : n ∈ ns := List.mem_of_getElem? ho
    have e1 := v_number (lt n hm)
    have hl : ((ns.take i).map iN).length < 1000000 := by rw [List.length_map, List.length_take]; omega
    have enx : (ns.take (i + 1)).map iN = (ns.take i).map iN ++ [iN n] := by rw [List.take_succ, ho, List.map_append]; rfl
    refine ⟨rwE (.str (strN (jl (ns.map dg)))) ((ns.take i).map iN) (.val (iN i)) (.val (.str (strN (dg n)))), _, rfl, ?_, rfl⟩
    rw [enx]
    match i, ho, hl with
    | 0, ho, hl =>
      have : n = b := by rw [hns] at ho; exact (Option.some.inj ho).symm
      subst this
      exact rw0 (i := 0) (hi := 36) e1 (by decide) (by decide) rfl (by omega) (by omega) hl
    | 1, ho, hl =>
      have : n = m := by rw [hns] at ho; exact (Option.some.inj ho).symm
      subst this
      exact rw0 (i := 1) (hi := 200) e1 (by decide) (by decide) rfl (by omega) (by omega) hl
    | j + 2, ho, hl =>
      have hj : rest[j]? = some n := by rw [hns] at ho; exact ho
      have := hr n (List.mem_of_getElem? hj)
      have em : atI ((ns.take (j + 2)).map iN) 1 = some (.int (m : Int)) := by
        rw [hns]
        show atI (iN b :: iN m :: (rest.take j).map iN) 1 = _
        rw [atI_1]; rfl
      exact rw1 (i := ((j + 2 : Nat) : Int)) (lo := 0) (hi := 0) e1 (by omega) (by omega) em (by omega) (by omega) hl) (rwE (.str (strN (jl (ns.map dg)))) [] .unb .unb) rfl
  rw [hlen, List.take_length] at lp
  have l3 : ((ns.map iN).length : Int) > 3 := by rw [List.length_map]; omega
  have hls : (ns.map fun n => D.str (strN (dg n))).length ≤ 1000000 := by rw [List.length_map]; omega
  generalize strN (jl (ns.map dg)) = T at *
  generalize (ns.map fun n => D.str (strN (dg n))) = WL at *
  generalize ns.map iN = NL at *
  generalize enumD WL = EL at *
  unfold rwE at lp
  simp only [List.map_nil] at lp
  unfold fr_p_read_weights_T
  apply runP_rt rfl
  rw [w55_eq, show startE 7 [.str T] = [.val (.str T), .unb, .unb, .unb, .unb, .unb, .unb] from rfl]
  refine seq_step (ρ1 := [.val (.str T), .ownL [], .unb, .unb, .unb, .unb, .unb]) ?_ (seq_step (ρ1 := [.val (.str T), .ownL (NL.map .val), .unb, .unb, .unb, .unb, .unb]) ?_ ?_)
  · simp (disch := omega) [-List.map_map, List.getElem?_cons_zero, List.getElem?_cons_succ, withL, Out.fm, P.mkArgs, P.putAll, w55_0]
  · simp (disch := omega) [-List.map_map, List.getElem?_cons_zero, List.getElem?_cons_succ, withL, Out.fm, P.mkArgs, P.putAll, w55_1, es, en, lp]
  · rw [frz_step (i := 1) (s := .ownL (NL.map .val)) (d := .lst NL) rfl fz_own]
    simp (disch := omega) [-List.map_map, List.getElem?_cons_zero, List.getElem?_cons_succ, withL, Out.fm, P.mkArgs, P.putAll, w55_2, l3]
    rfl
def numsOf (b : Nat) (m : Int) (ws : List Int) (r : Int) : List Nat := b :: m.toNat :: r.toNat :: ws.map fun w => (w % m).toNat
structure NW (b : Nat) (m : Int) (ws : List Int) (r : Int) : Prop where
  b2 : 2 ≤ b
  b36 : b ≤ 36
  m2 : 2 ≤ m
  m200 : m ≤ 200
  n1 : 1 ≤ ws.length
  n30 : ws.length ≤ 30
  r0 : 0 ≤ r
  r1 : r < m
  big : ∀ w ∈ ws, w.natAbs ≤ 10 ^ 60
theorem NW.ns {b : Nat} {m : Int} {ws : List Int} {r : Int} (h : NW b m ws r) : NsOk (numsOf b m ws r) := by
  obtain ⟨b2, b36, m2, m200, n1, n30, r0, r1, _⟩ := h
  refine ⟨by simp [numsOf]; omega, by simp [numsOf]; omega, b, m.toNat, _, rfl, b2, b36, by omega, by omega, fun x hx => ?_⟩
  simp only [List.mem_cons, List.mem_map] at hx
  rcases hx with rfl | ⟨w, _, rfl⟩
  · omega
  · have := Int.emod_lt_of_pos w (b := m) (by omega)
    have := Int.emod_nonneg w (b := m) (by omega)
    omega
theorem nums_D {b : Nat} {m : Int} {ws : List Int} {r : Int} (h : NW b m ws r) : (numsOf b m ws r).map iN = .int (b : Int) :: .int m :: .int r :: (ws.map fun w => w % m).map D.int := by
  have m2 := h.m2
  have r0 := h.r0
  have e : ∀ w : Int, iN (w % m).toNat = D.int (w % m) := fun w => by
    have := Int.emod_nonneg w (b := m) (by omega)
    unfold iN; rw [Int.toNat_of_nonneg this]
  unfold numsOf
  rw [List.map_cons, List.map_cons, List.map_cons, List.map_map, List.map_map]
  unfold iN at *
  rw [Int.toNat_of_nonneg (by omega), Int.toNat_of_nonneg r0]
  congr 3
  exact List.map_congr_left fun w _ => e w
theorem wrule_mod {b : Nat} {m : Int} (ws : List Int) (r : Int) : wrule b m (ws.map fun w => w % m) r = wrule b m ws r := by
  unfold wrule
  rw [List.map_map]
  congr 1
  refine List.map_congr_left fun w _ => ?_
  unfold wrow
  refine List.map_congr_left fun d _ => ?_
  show w % m * d % m = w * d % m
  rw [Int.mul_emod, Int.emod_emod_of_dvd _ (Int.dvd_refl m), ← Int.mul_emod]
def pageN (b : Nat) (m : Int) (ws : List Int) (r : Int) : Str := strN (jl ((numsOf b m ws r).map dg))
theorem v_parse {b : Nat} {m : Int} {ws : List Int} {r : Int} (h : NW b m ws r) : fr_p_parse_weights [.str (pageN b m ws r)] = .ok (ruleS (wrule b m ws r)) := by
  have e1 := v_read h.ns
  rw [nums_D h] at e1
  have e2 := v_weighted (b := b) (m := m) (ws := ws.map fun w => w % m) (r := r) h.b2 h.b36 h.m2 h.m200 (by rw [List.length_map]; exact h.n1) (by rw [List.length_map]; exact h.n30) h.r0 h.r1
  rw [wrule_mod] at e2
  have hl : ((ws.map fun w => w % m).map D.int).length < 16000 := by rw [List.length_map, List.length_map]; have := h.n30; omega
  have et : tupleD [.lst ((ws.map fun w => w % m).map D.int)] = some (rowD (ws.map fun w => w % m)) := rfl
  have u := ruleS_unb (wrule b m ws r)
  have e3 : fr_p_rule_of_numbers [.lst (.int (b : Int) :: .int m :: .int r :: (ws.map fun w => w % m).map D.int)] = .ok (ruleS (wrule b m ws r)) := by
    generalize ruleS (wrule b m ws r) = RS at *
    generalize rowD (ws.map fun w => w % m) = RD at *
    generalize (ws.map fun w => w % m).map D.int = WL at *
    simp (disch := omega) [-List.map_map, List.getElem?_cons_zero, List.getElem?_cons_succ, withL, Out.fm, P.mkArgs, P.putAll, fr_p_rule_of_numbers, runP, m_p_rule_of_numbers, hl, et, e2, u]
  have e1 : fr_p_read_weights_T [.str (pageN b m ws r)] = _ := e1
  generalize ruleS (wrule b m ws r) = RS at *
  generalize (ws.map fun w => w % m).map D.int = WL at *
  generalize pageN b m ws r = T at *
  simp (disch := omega) [-List.map_map, List.getElem?_cons_zero, List.getElem?_cons_succ, withL, Out.fm, P.mkArgs, P.putAll, fr_p_parse_weights, runP, m_p_parse_weights, e1, e3, u, bList, bName]
def numT (b : Nat) (m : Int) (ws : List Int) (r : Int) : D := .tup [.int (b : Int), .int m, rowD ws, .int r]
theorem strI_n {n : Nat} (h : n < 201) : strID [iN n] = some (.str (strN (dg n))) := by
  have : (n : Int).natAbs.log2 < 1920 := by
    have h1 : (n : Int).natAbs < 2 ^ 1920 := Nat.lt_of_lt_of_le (show n < 2 ^ 8 by omega) (Nat.pow_le_pow_right (by decide) (by decide))
    by_cases h0 : (n : Int).natAbs = 0
    · rw [h0]; decide
    · exact (Nat.log2_lt h0).mpr h1
  show (if (n : Int).natAbs.log2 < 1920 then some (D.str (Str.ofString (toString (n : Int)))) else none) = _
  rw [if_pos this, strN_dg]
theorem mmods {x0 x1 x3 x4 x5 x7 : P.Slot} {m : Int} {ws : List Int} (hm : 0 < m) : lcL [6] (bName 6) yesM lm_law_page_1 (ws.map D.int) [x0, x1, .val (.int m), x3, x4, x5, .unb, x7] = .ok ((ws.map fun w => w % m).map D.int) [x0, x1, .val (.int m), x3, x4, x5, .unb, x7] :=
  lcL_all (vs := [6]) (b := bName 6) (m := lm_law_page_1) (ρ := [x0, x1, .val (.int m), x3, x4, x5, .unb, x7]) D.int D.int (fun w => w % m) ws (fun w hw => ⟨_, rfl, by simp (disch := omega) [-List.map_map, List.getElem?_cons_zero, List.getElem?_cons_succ, withL, Out.fm, P.mkArgs, P.putAll, lm_law_page_1, hm], rfl⟩)
theorem mstrs {x0 x1 x2 x3 x4 x5 x6 : P.Slot} {ns : List Nat} (hn : ∀ n ∈ ns, n < 201) : lcL [7] (bName 7) yesM lm_law_page_2 (ns.map iN) [x0, x1, x2, x3, x4, x5, x6, .unb] = .ok (ns.map fun n => D.str (strN (dg n))) [x0, x1, x2, x3, x4, x5, x6, .unb] := by
  have := lcL_all (vs := [7]) (b := bName 7) (m := lm_law_page_2) (ρ := [x0, x1, x2, x3, x4, x5, x6, .unb]) iN id (fun n => D.str (strN (dg n))) ns (fun n hm => ⟨_, rfl, by
    have e := strI_n (hn n hm)
    generalize iN n = d at *
    simp (disch := omega) [-List.map_map, List.getElem?_cons_zero, List.getElem?_cons_succ, withL, Out.fm, P.mkArgs, P.putAll, lm_law_page_2, e], rfl⟩)
  rw [List.map_id] at this
  exact this
theorem v_page {b : Nat} {m : Int} {ws : List Int} {r : Int} (h : NW b m ws r) : fr_law_page [numT b m ws r] = .ok (.val (.str (pageN b m ws r))) := by
  have lt := h.ns.lt
  have hm : 0 < m := by have := h.m2; omega
  have n30 := h.n30
  have k1 := fun x0 x1 x3 x4 x5 x7 => mmods (x0 := x0) (x1 := x1) (x3 := x3) (x4 := x4) (x5 := x5) (x7 := x7) (ws := ws) hm
  have k2 := fun x0 x1 x2 x3 x4 x5 x6 => mstrs (x0 := x0) (x1 := x1) (x2 := x2) (x3 := x3) (x4 := x4) (x5 := x5) (x6 := x6) lt
  rw [nums_D h] at k2
  have ej := joinD_nums lt (by simp [numsOf]; omega)
  have hr : itA (rowD ws) = some (ws.map D.int) := it_row
  have hl1 : (ws.map D.int).length ≤ 16777216 := by rw [List.length_map]; omega
  have hl2 : ((ws.map fun w => w % m).map D.int).length + 1 + 1 + 1 ≤ 1000000 := by rw [List.length_map, List.length_map]; omega
  have hl3 : ((ws.map fun w => w % m).map D.int).length ≤ 16777213 := by rw [List.length_map, List.length_map]; omega
  show _ = FR.ok (.val (.str (strN (jl ((numsOf b m ws r).map dg)))))
  unfold numT
  generalize strN (jl ((numsOf b m ws r).map dg)) = T at *
  generalize ((numsOf b m ws r).map fun n => D.str (strN (dg n))) = SL at *
  generalize (ws.map fun w => w % m).map D.int = WL at *
  generalize ws.map D.int = VL at *
  generalize rowD ws = RD at *
  generalize (b : Int) = B at *
  simp (disch := omega) [-List.map_map, List.getElem?_cons_zero, List.getElem?_cons_succ, withL, Out.fm, P.mkArgs, P.putAll, fr_law_page, runP, m_law_page, bList, bName, hr, hl1, k1, hl2, hl3, k2, ej]
theorem fmods {x0 x2 x3 x4 x6 : P.Slot} {m : Int} {ws : List Int} (hm : 0 < m) : lcL [5] (bName 5) yesM lm_p_format_weights_1 (ws.map D.int) [x0, .val (.int m), x2, x3, x4, .unb, x6] = .ok ((ws.map fun w => w % m).map D.int) [x0, .val (.int m), x2, x3, x4, .unb, x6] :=
  lcL_all (vs := [5]) (b := bName 5) (m := lm_p_format_weights_1) (ρ := [x0, .val (.int m), x2, x3, x4, .unb, x6]) D.int D.int (fun w => w % m) ws (fun w hw => ⟨_, rfl, by simp (disch := omega) [-List.map_map, List.getElem?_cons_zero, List.getElem?_cons_succ, withL, Out.fm, P.mkArgs, P.putAll, lm_p_format_weights_1, hm], rfl⟩)
theorem fstrs {x0 x1 x2 x3 x4 x5 : P.Slot} {ns : List Nat} (hn : ∀ n ∈ ns, n < 201) : lcL [6] (bName 6) yesM lm_p_format_weights_2 (ns.map iN) [x0, x1, x2, x3, x4, x5, .unb] = .ok (ns.map fun n => D.str (strN (dg n))) [x0, x1, x2, x3, x4, x5, .unb] := by
  have := lcL_all (vs := [6]) (b := bName 6) (m := lm_p_format_weights_2) (ρ := [x0, x1, x2, x3, x4, x5, .unb]) iN id (fun n => D.str (strN (dg n))) ns (fun n hm => ⟨_, rfl, by
    have e := strI_n (hn n hm)
    generalize iN n = d at *
    simp (disch := omega) [-List.map_map, List.getElem?_cons_zero, List.getElem?_cons_succ, withL, Out.fm, P.mkArgs, P.putAll, lm_p_format_weights_2, e], rfl⟩)
  rw [List.map_id] at this
  exact this
theorem v_formatW {b : Nat} {m : Int} {ws : List Int} {r : Int} (h : NW b m ws r) : fr_p_format_weights [.int (b : Int), .int m, rowD ws, .int r] = .ok (.val (.str (pageN b m ws r))) := by
  have lt := h.ns.lt
  have hm : 0 < m := by have := h.m2; omega
  have n30 := h.n30
  have b2 := h.b2
  have b36 := h.b36
  have q1 := v_base (b : Int) (by omega) (by omega)
  have q2 := v_modulus m h.m2 h.m200
  have q3 := v_weights ws h.n1 h.n30
  have q4 := v_remainder r m h.r0 h.r1
  have k1 := fun x0 x2 x3 x4 x6 => fmods (x0 := x0) (x2 := x2) (x3 := x3) (x4 := x4) (x6 := x6) (ws := ws) hm
  have k2 := fun x0 x1 x2 x3 x4 x5 => fstrs (x0 := x0) (x1 := x1) (x2 := x2) (x3 := x3) (x4 := x4) (x5 := x5) lt
  rw [nums_D h] at k2
  have ej := joinD_nums lt (by simp [numsOf]; omega)
  have hr : itA (rowD ws) = some (ws.map D.int) := it_row
  have hl1 : (ws.map D.int).length ≤ 16777216 := by rw [List.length_map]; omega
  have hl2 : ((ws.map fun w => w % m).map D.int).length + 1 + 1 + 1 ≤ 1000000 := by rw [List.length_map, List.length_map]; omega
  have hl3 : ((ws.map fun w => w % m).map D.int).length ≤ 16777213 := by rw [List.length_map, List.length_map]; omega
  show _ = FR.ok (.val (.str (strN (jl ((numsOf b m ws r).map dg)))))
  generalize strN (jl ((numsOf b m ws r).map dg)) = T at *
  generalize ((numsOf b m ws r).map fun n => D.str (strN (dg n))) = SL at *
  generalize (ws.map fun w => w % m).map D.int = WL at *
  generalize ws.map D.int = VL at *
  generalize rowD ws = RD at *
  generalize (b : Int) = B at *
  simp (disch := omega) [-List.map_map, List.getElem?_cons_zero, List.getElem?_cons_succ, withL, Out.fm, P.mkArgs, P.putAll, fr_p_format_weights, runP, m_p_format_weights, q1, q2, q3, q4, hr, hl1, k1, hl2, hl3, k2, ej]
theorem ln1 {x0 x3 x4 x5 : P.Slot} {b : Nat} {m w : Int} (hm : 0 < m) (hb : b ≤ 36) : lcL [7] (bName 7) yesM lm_law_lines_1 (rngL 0 b) [x0, .val (.int (b : Int)), .val (.int m), x3, x4, x5, .val (.int w), .unb] = .ok ((wrow b m w).map D.int) [x0, .val (.int (b : Int)), .val (.int m), x3, x4, x5, .val (.int w), .unb] := by
  rw [rngL0_map]
  exact lcL_all (vs := [7]) (b := bName 7) (m := lm_law_lines_1) (ρ := [x0, .val (.int (b : Int)), .val (.int m), x3, x4, x5, .val (.int w), .unb]) (fun i : Nat => .int (i : Int)) D.int (fun d : Nat => w * d % m) (List.range b) (fun d hd => ⟨_, rfl, by
    have hd := List.mem_range.mp hd
    have e1 : mulD (.int w) (.int d) = some (.int (w * d)) := mulD_r (by omega) (by omega)
    simp (disch := omega) [-List.map_map, List.getElem?_cons_zero, List.getElem?_cons_succ, withL, Out.fm, P.mkArgs, P.putAll, lm_law_lines_1, e1, hm], rfl⟩)
theorem v_lines {b : Nat} {m : Int} {ws : List Int} {r : Int} (h : NW b m ws r) : fr_law_lines [numT b m ws r] = .ok (.val (rowsD (wrule b m ws r).rows)) := by
  have hm : 0 < m := by have := h.m2; omega
  have n30 := h.n30
  have b36 := h.b36
  have er : rng1 [.int (b : Int)] = some (rngL 0 b) := by rw [rng1_i (by omega) (by omega), Int.toNat_natCast]
  have hlr : (rngL 0 b).length ≤ 16777216 := by rw [rngL_len]; omega
  obtain ⟨_, lp, rfl⟩ := forL_inv (b := bName 6) (body := fb_law_lines_1) (ws.map D.int) (fun i ρ => ρ = [.val (numT b m ws r), .val (.int (b : Int)), .val (.int m), .val (rowD ws), .val (.int r), .ownL (((ws.take i).map (fun w => rowD (wrow b m w))).map .val), .unb, .unb]) (by
    rintro i d ρ hd rfl
    rw [List.getElem?_map, Option.map_eq_some_iff] at hd
    obtain ⟨w, ho, rfl⟩ := hd
    have hi := (List.getElem?_eq_some_iff.mp ho).1
    have hl : ((ws.take i).map (fun w => rowD (wrow b m w))).length < 1000000 := by rw [List.length_map, List.length_take]; omega
    have k := fun x0 x3 x4 x5 => ln1 (x0 := x0) (x3 := x3) (x4 := x4) (x5 := x5) (w := w) hm b36
    have et : tupleD [.lst ((wrow b m w).map D.int)] = some (rowD (wrow b m w)) := rfl
    refine ⟨[.val (numT b m ws r), .val (.int (b : Int)), .val (.int m), .val (rowD ws), .val (.int r), .ownL (((ws.take i).map (fun w => rowD (wrow b m w))).map .val), .val (.int w), .unb], _, rfl, ?_, rfl⟩
    rw [List.take_succ, ho, List.map_append]
    show _ = Out.nx [_, _, _, _, _, .ownL (((ws.take i).map (fun w => rowD (wrow b m w)) ++ [rowD (wrow b m w)]).map .val), _, _]
    generalize numT b m ws r = NT at *
    generalize rowD ws = RD at *
    generalize (ws.take i).map (fun w => rowD (wrow b m w)) = FL at *
    generalize rowD (wrow b m w) = R1 at *
    generalize (wrow b m w).map D.int = WL at *
    generalize rngL 0 b = RL at *
    generalize (b : Int) = B at *
    simp (disch := omega) [-List.map_map, List.getElem?_cons_zero, List.getElem?_cons_succ, withL, Out.fm, P.mkArgs, P.putAll, fb_law_lines_1, er, hlr, k, et, hl]) [.val (numT b m ws r), .val (.int (b : Int)), .val (.int m), .val (rowD ws), .val (.int r), .ownL [], .unb, .unb] rfl
  rw [List.length_map, List.take_length] at lp
  have hr : itA (rowD ws) = some (ws.map D.int) := it_row
  have et : tupleD [.lst (ws.map (fun w => rowD (wrow b m w)))] = some (rowsD (wrule b m ws r).rows) := by
    show some (D.tup (ws.map (fun w => rowD (wrow b m w)))) = some (D.tup ((ws.map (wrow b m)).map rowD))
    rw [List.map_map]; rfl
  unfold numT at *
  generalize ws.map (fun w => rowD (wrow b m w)) = FL at *
  generalize rowsD (wrule b m ws r).rows = O at *
  generalize rowD ws = RD at *
  generalize ws.map D.int = VL at *
  generalize (b : Int) = B at *
  simp (disch := omega) [-List.map_map, List.getElem?_cons_zero, List.getElem?_cons_succ, withL, Out.fm, P.mkArgs, P.putAll, fr_law_lines, runP, m_law_lines, bList, bName, hr, lp, et]
theorem dg_facts {n : Nat} (h : n < 201) : (dg n).length ≤ 3 ∧ ∀ c ∈ dg n, c < 100 := by
  have c := chk_all n h
  simp only [chkN, Bool.and_eq_true, decide_eq_true_eq, List.all_eq_true] at c
  refine ⟨c.1.1.1.2, fun x hx => ?_⟩
  have := (c.1.1.2 x hx).1
  have q : ∀ y ∈ FIG.cps.toList, y < 100 := by decide +kernel
  exact q x this
theorem jl_facts : ∀ (l : List Nat), (∀ n ∈ l, n < 201) → (jl (l.map dg)).length ≤ 4 * l.length ∧ ∀ c ∈ jl (l.map dg), c < 100
  | [], _ => ⟨by simp [jl], by simp [jl]⟩
  | [n], h => by
    obtain ⟨h1, h2⟩ := dg_facts (h n (by simp))
    exact ⟨by show (dg n).length ≤ _; simp; omega, h2⟩
  | n :: n2 :: l, h => by
    obtain ⟨h1, h2⟩ := dg_facts (h n (by simp))
    obtain ⟨g1, g2⟩ := jl_facts (n2 :: l) fun x hx => h x (by simp at hx ⊢; right; exact hx)
    have g1 : (jl (dg n2 :: l.map dg)).length ≤ 4 * (l.length + 1) := g1
    refine ⟨?_, fun c hc => ?_⟩
    · show (dg n ++ 32 :: jl (dg n2 :: l.map dg)).length ≤ 4 * (l.length + 1 + 1)
      rw [List.length_append, List.length_cons]; omega
    · have hc : c ∈ dg n ++ 32 :: jl (dg n2 :: l.map dg) := hc
      simp only [List.mem_append, List.mem_cons] at hc
      rcases hc with hc | rfl | hc
      · exact h2 c hc
      · decide
      · exact g2 c hc
theorem page_rp {b : Nat} {m : Int} {ws : List Int} {r : Int} (h : NW b m ws r) : (reprText (pageN b m ws r)).length ≤ 2000 := by
  obtain ⟨h1, h2⟩ := jl_facts _ h.ns.lt
  have := StrLaws.reprText_len (pageN b m ws r) (fun c hc => by
    have hc : c ∈ jl ((numsOf b m ws r).map dg) := by simpa [pageN, strN] using hc
    have := h2 c hc
    omega)
  have e : (pageN b m ws r).length = (jl ((numsOf b m ws r).map dg)).length := strN_len _
  have := h.ns.u
  omega
theorem rp_two {b : Nat} {m : Int} {ws : List Int} {r : Int} (h : NW b m ws r) : ∃ x, reprD [.lst [.str (pageN b m ws r), .str (pageN b m ws r)]] = some (.str x) := by
  refine repr_small (d := .lst [.str (pageN b m ws r), .str (pageN b m ws r)]) rfl (by simp [rD, rDs]) ?_
  have := page_rp h
  show ((reprText (pageN b m ws r)).length + 2 + ((reprText (pageN b m ws r)).length + 2 + 0)) + 4 ≤ 1000000
  omega
theorem rK_i {i : Int} (h : i.natAbs ≤ 10 ^ 60) : rK (.int i) = true := by
  show decide (i.natAbs.log2 < 1920) = true
  refine decide_eq_true ?_
  by_cases h0 : i.natAbs = 0
  · rw [h0]; decide
  · exact (Nat.log2_lt h0).mpr (Nat.lt_of_le_of_lt h (Nat.lt_of_lt_of_le (show (10 : Nat) ^ 60 < 2 ^ 200 by decide +kernel) (Nat.pow_le_pow_right (by decide) (by decide))))
theorem row_rp {xs : List Int} (h : ∀ x ∈ xs, x.natAbs ≤ 10 ^ 60) (hl : xs.length ≤ 40) : rK (rowD xs) = true ∧ rD (rowD xs) ≤ 1 ∧ rS (rowD xs) ≤ 80000 := by
  refine ⟨rKs_all fun d hd => by obtain ⟨x, hx, rfl⟩ := List.mem_map.mp hd; exact rK_i (h x hx), ?_, ?_⟩
  · have := rDs_all 0 (xs.map D.int) fun d hd => by obtain ⟨x, _, rfl⟩ := List.mem_map.mp hd; simp [rD]
    show rDs _ + 1 ≤ 1; omega
  · have := rSs_all (n := 1921) (ds := xs.map D.int) fun d hd => by obtain ⟨x, _, rfl⟩ := List.mem_map.mp hd; exact rI_le x
    rw [List.length_map] at this
    show rSs _ + 4 ≤ _; omega
theorem rp_num {b : Nat} {m : Int} {ws : List Int} {r : Int} (h : NW b m ws r) : ∃ x, reprD [numT b m ws r] = some (.str x) := by
  obtain ⟨a1, a2, a3⟩ := row_rp h.big (by have := h.n30; omega)
  have k1 : rK (.int (b : Int)) = true := rK_i (by have := h.b36; omega)
  have k2 : rK (.int m) = true := rK_i (by have := h.m2; have := h.m200; omega)
  have k3 : rK (.int r) = true := rK_i (by have := h.r0; have := h.r1; have := h.m200; omega)
  have s1 := rI_le (b : Int)
  have s2 := rI_le m
  have s3 := rI_le r
  refine repr_small ?_ ?_ ?_
  · show (rK (.int (b : Int)) && (rK (.int m) && (rK (rowD ws) && (rK (.int r) && true)))) = true
    rw [k1, k2, a1, k3]; rfl
  · simp only [numT, rD, rDs] at *
    omega
  · show (rI (b : Int) + 2 + (rI m + 2 + (rS (rowD ws) + 2 + (rI r + 2 + 0)))) + 4 ≤ 1000000
    omega
theorem rp_found {R : RV} (ok : R.Ok) : ∃ x, reprD [.lst [.int R.m, rowsD R.rows, .int R.r, .int (R.b : Int), .int (R.rows.length : Int)]] = some (.str x) := by
  have hrow : ∀ row ∈ R.rows, rK (rowD row) = true ∧ rD (rowD row) ≤ 1 ∧ rS (rowD row) ≤ 300 := fun row hr => by
    have hx := ok.rng row hr
    have m200 := ok.m200
    have hl := ok.len row hr
    have b36 := ok.b36
    obtain ⟨a1, a2, _⟩ := row_rp (xs := row) (fun x hm => by have := hx x hm; omega) (by omega)
    refine ⟨a1, a2, ?_⟩
    have := rSs_all (n := 4) (ds := row.map D.int) fun d hd => by
      obtain ⟨x, hm, rfl⟩ := List.mem_map.mp hd
      have := hx x hm
      show rI x ≤ 4
      unfold rI
      rw [if_pos (by omega)]; exact Nat.le_refl _
    rw [List.length_map] at this
    show rSs _ + 4 ≤ _; omega
  have n30 := ok.n30
  have g1 : rK (rowsD R.rows) = true := rKs_all fun d hd => by obtain ⟨x, hx, rfl⟩ := List.mem_map.mp hd; exact (hrow x hx).1
  have g2 : rD (rowsD R.rows) ≤ 2 := by
    have := rDs_all 1 (R.rows.map rowD) fun d hd => by obtain ⟨x, hx, rfl⟩ := List.mem_map.mp hd; exact (hrow x hx).2.1
    show rDs _ + 1 ≤ 2; omega
  have g3 : rS (rowsD R.rows) ≤ 10000 := by
    have := rSs_all (n := 300) (ds := R.rows.map rowD) fun d hd => by obtain ⟨x, hx, rfl⟩ := List.mem_map.mp hd; exact (hrow x hx).2.2
    rw [List.length_map] at this
    show rSs _ + 4 ≤ _; omega
  have k1 : rK (.int R.m) = true := rK_i (by have := ok.m2; have := ok.m200; omega)
  have k2 : rK (.int R.r) = true := rK_i (by have := ok.r0; have := ok.r1; have := ok.m200; omega)
  have k3 : rK (.int (R.b : Int)) = true := rK_i (by have := ok.b36; omega)
  have k4 : rK (.int (R.rows.length : Int)) = true := rK_i (by omega)
  have s1 := rI_le R.m
  have s2 := rI_le R.r
  have s3 := rI_le (R.b : Int)
  have s4 := rI_le (R.rows.length : Int)
  refine repr_small ?_ ?_ ?_
  · show (rK (.int R.m) && (rK (rowsD R.rows) && (rK (.int R.r) && (rK (.int (R.b : Int)) && (rK (.int (R.rows.length : Int)) && true))))) = true
    rw [k1, g1, k2, k3, k4]; rfl
  · simp only [rD, rDs] at *
    omega
  · show (rI R.m + 2 + (rS (rowsD R.rows) + 2 + (rI R.r + 2 + (rI (R.b : Int) + 2 + (rI (R.rows.length : Int) + 2 + 0))))) + 4 ≤ 1000000
    omega
def lE (NT : D) (b m : Int) (W : D) (r : Int) (x5 x6 x7 x8 x9 x10 x11 x12 x13 x14 x15 : P.Slot) : P.Env := [.val NT, .val (.int b), .val (.int m), .val W, .val (.int r), x5, x6, x7, x8, x9, x10, x11, x12, x13, x14, x15]
theorem fr1 {NT RD RW WD : D} {b m r n : Int} {RS : P.Slot} {x5 x7 x8 x9 x10 x11 x12 : P.Slot} {x : Str} (i : insI "Rule" RD = true) (e1 : fr_p_Rule_modulus [RD] = .ok (.val (.int m))) (e2 : fr_p_Rule_rows [RD] = .ok (.val RW)) (e3 : fr_p_Rule_remainder [RD] = .ok (.val (.int r))) (e4 : fr_p_Rule_base [RD] = .ok (.val (.int b))) (e5 : lenI "Rule" fr_p_Rule___len__ [RD] = some (.int n)) (e6 : lenD [WD] = some (.int n)) (er : reprD [.lst [.int m, RW, .int r, .int b, .int n]] = some (.str x))
    (ew : fr_p_Rule_weighted [.cls "Rule", .int b, .int m, WD, .int r] = .ok RS) (fz : RS.fz = some RD) (ub : RS.isUnb = false) (ei : fm_p_Rule___init__ [.ownI "Rule" [] [], .val (.int m), .val RW, .val (.int r)] = .ok (.val .non) [RS]) (ec : cmpI "Rule" fr_p_Rule___eq__ false RD RD = some (.bl true)) :
    fb_law_right_1 (lE NT b m WD r x5 (.val RW) x7 x8 x9 x10 x11 x12 (.val RD) .unb .unb) = .nx (lE NT b m WD r x5 (.val RW) x7 x8 x9 x10 x11 x12 .unb .unb .unb) := by
  unfold lE
  rw [f55_eq]
  refine fgt_nx (ρ1 := [.val NT, .val (.int b), .val (.int m), .val WD, .val (.int r), x5, .val RW, x7, x8, x9, x10, x11, x12, .val RD, .val (.lst [.int m, RW, .int r, .int b, .int n]), .val RD]) ?_ rfl
  refine seq_step (ρ1 := [.val NT, .val (.int b), .val (.int m), .val WD, .val (.int r), x5, .val RW, x7, x8, x9, x10, x11, x12, .val RD, .val (.lst [.int m, RW, .int r, .int b, .int n]), .unb]) ?_ (seq_step (ρ1 := [.val NT, .val (.int b), .val (.int m), .val WD, .val (.int r), x5, .val RW, x7, x8, x9, x10, x11, x12, .val RD, .val (.lst [.int m, RW, .int r, .int b, .int n]), .unb]) ?_ (seq_step (ρ1 := [.val NT, .val (.int b), .val (.int m), .val WD, .val (.int r), x5, .val RW, x7, x8, x9, x10, x11, x12, .val RD, .val (.lst [.int m, RW, .int r, .int b, .int n]), .val RD]) ?_ ?_))
  · simp (disch := omega) [-List.map_map, List.getElem?_cons_zero, List.getElem?_cons_succ, withL, Out.fm, P.mkArgs, P.putAll, f55_0, i, e1, e2, e3, e4, e5]
  · simp (disch := omega) [-List.map_map, List.getElem?_cons_zero, List.getElem?_cons_succ, withL, Out.fm, P.mkArgs, P.putAll, f55_1, er, e6]
  · simp (disch := omega) [-List.map_map, List.getElem?_cons_zero, List.getElem?_cons_succ, withL, Out.fm, P.mkArgs, P.putAll, f55_2, ew, fz, ub]
  · simp (disch := omega) [-List.map_map, List.getElem?_cons_zero, List.getElem?_cons_succ, withL, Out.fm, P.mkArgs, P.putAll, f55_3, ei, fz, ub, ec]
theorem v_right55 {b : Nat} {m : Int} {ws : List Int} {r : Int} (h : NW b m ws r) : fr_law_right [numT b m ws r] = .ok (.val (.bl true)) := by
  have okR : (wrule b m ws r).Ok := wrule_ok h.b2 h.b36 h.m2 h.m200 h.n1 h.n30 h.r0 h.r1
  have hb : (wrule b m ws r).b = b := wrule_b h.n1
  have hn : (wrule b m ws r).rows.length = ws.length := by simp [wrule]
  have e1 := v_page h
  have e2 := v_lines h
  have e3 := v_formatW h
  have e4 := v_parse h
  have fz := ruleS_fz (wrule b m ws r)
  have ub := ruleS_unb (wrule b m ws r)
  obtain ⟨x, ex⟩ := rp_two h
  obtain ⟨y, ey⟩ := rp_num h
  obtain ⟨z, ez⟩ := rp_found okR
  rw [hb, hn] at ez
  have c := cmp_rule (wrule b m ws r) (wrule b m ws r) false
  rw [RV.eqB_self] at c
  have pb := v_pbase okR.n1
  rw [hb] at pb
  have pl := v_len okR.n30
  rw [hn] at pl
  have fr := fun x5 x7 x8 x9 x10 x11 x12 => fr1 (NT := numT b m ws r) (x5 := x5) (x7 := x7) (x8 := x8) (x9 := x9) (x10 := x10) (x11 := x11) (x12 := x12) (insI_rule (wrule b m ws r)) (v_pmod (wrule b m ws r)) (v_prows (wrule b m ws r)) (v_prem (wrule b m ws r)) pb pl (len_row (r := ws)) ez (v_weighted h.b2 h.b36 h.m2 h.m200 h.n1 h.n30 h.r0 h.r1) fz ub (init_parts okR) c
  have two : ∀ x7 x8 x9 x10 x11 x12, forL (bName 13) fb_law_right_1 [ruleD (wrule b m ws r), ruleD (wrule b m ws r)] (lE (numT b m ws r) b m (rowD ws) r (.val (.str (pageN b m ws r))) (.val (rowsD (wrule b m ws r).rows)) x7 x8 x9 x10 x11 x12 .unb .unb .unb) = .nx (lE (numT b m ws r) b m (rowD ws) r (.val (.str (pageN b m ws r))) (.val (rowsD (wrule b m ws r).rows)) x7 x8 x9 x10 x11 x12 .unb .unb .unb) := fun x7 x8 x9 x10 x11 x12 => by
    obtain ⟨_, lp, rfl⟩ := forL_inv (b := bName 13) (body := fb_law_right_1) [ruleD (wrule b m ws r), ruleD (wrule b m ws r)] (fun _ ρ => ρ = lE (numT b m ws r) b m (rowD ws) r (.val (.str (pageN b m ws r))) (.val (rowsD (wrule b m ws r).rows)) x7 x8 x9 x10 x11 x12 .unb .unb .unb) (by
      rintro i d ρ hd rfl
      have hm := List.mem_of_getElem? hd
      simp only [List.mem_cons, List.not_mem_nil, or_false, or_self] at hm
      subst hm
      exact ⟨lE (numT b m ws r) b m (rowD ws) r (.val (.str (pageN b m ws r))) (.val (rowsD (wrule b m ws r).rows)) x7 x8 x9 x10 x11 x12 (.val (ruleD (wrule b m ws r))) .unb .unb, _, rfl, fr _ _ _ _ _ _ _, rfl⟩) (lE (numT b m ws r) b m (rowD ws) r (.val (.str (pageN b m ws r))) (.val (rowsD (wrule b m ws r).rows)) x7 x8 x9 x10 x11 x12 .unb .unb .unb) rfl
    exact lp
  have a0 : r55_0 (startE 16 [numT b m ws r]) = .nx (lE (numT b m ws r) b m (rowD ws) r .unb .unb .unb .unb .unb .unb .unb .unb .unb .unb .unb) := rfl
  have a5 : ∀ x5 x6 x7 x8, r55_5 (lE (numT b m ws r) b m (rowD ws) r x5 x6 x7 x8 .unb .unb .unb .unb .unb .unb .unb) = .nx (lE (numT b m ws r) b m (rowD ws) r x5 x6 x7 x8 (.val (.int b)) (.val (.int m)) (.val (rowD ws)) (.val (.int r)) .unb .unb .unb) := fun _ _ _ _ => rfl
  have st : m_law_right (startE 16 [numT b m ws r]) = .rt (.val (.bl true)) (lE (numT b m ws r) b m (rowD ws) r (.val (.str (pageN b m ws r))) (.val (rowsD (wrule b m ws r).rows)) (.val (.str y)) (.val (.lst [.str (pageN b m ws r), .str (pageN b m ws r)])) (.val (.int b)) (.val (.int m)) (.val (rowD ws)) (.val (.int r)) .unb .unb .unb) := by
    rw [r55_eq]
    clear fr c pb pl ez okR
    generalize ruleS (wrule b m ws r) = RS at *
    generalize ruleD (wrule b m ws r) = RD at *
    generalize rowsD (wrule b m ws r).rows = RW at *
    generalize pageN b m ws r = T at *
    generalize numT b m ws r = NT at *
    generalize rowD ws = WD at *
    generalize (b : Int) = B at *
    refine seq_step a0 (seq_step (ρ1 := lE NT B m WD r (.val (.str T)) .unb .unb .unb .unb .unb .unb .unb .unb .unb .unb) ?_ (seq_step (ρ1 := lE NT B m WD r (.val (.str T)) (.val RW) .unb .unb .unb .unb .unb .unb .unb .unb .unb) ?_ (seq_step (ρ1 := lE NT B m WD r (.val (.str T)) (.val RW) (.val (.str y)) .unb .unb .unb .unb .unb .unb .unb .unb) ?_ (seq_step (ρ1 := lE NT B m WD r (.val (.str T)) (.val RW) (.val (.str y)) (.ownL [.val (.str T)]) .unb .unb .unb .unb .unb .unb .unb) ?_ (seq_step (a5 _ _ _ _) (seq_step (ρ1 := lE NT B m WD r (.val (.str T)) (.val RW) (.val (.str y)) (.ownL [.val (.str T), .val (.str T)]) (.val (.int B)) (.val (.int m)) (.val WD) (.val (.int r)) .unb .unb .unb) ?_ (seq_step (ρ1 := lE NT B m WD r (.val (.str T)) (.val RW) (.val (.str y)) (.val (.lst [.str T, .str T])) (.val (.int B)) (.val (.int m)) (.val WD) (.val (.int r)) .unb .unb .unb) ?_ (seq_step (ρ1 := lE NT B m WD r (.val (.str T)) (.val RW) (.val (.str y)) (.val (.lst [.str T, .str T])) (.val (.int B)) (.val (.int m)) (.val WD) (.val (.int r)) .unb .unb .unb) ?_ ?_))))))))
    · unfold lE; simp (disch := omega) [-List.map_map, List.getElem?_cons_zero, List.getElem?_cons_succ, withL, Out.fm, P.mkArgs, P.putAll, r55_1, e1]
    · unfold lE; simp (disch := omega) [-List.map_map, List.getElem?_cons_zero, List.getElem?_cons_succ, withL, Out.fm, P.mkArgs, P.putAll, r55_2, e2]
    · unfold lE; simp (disch := omega) [-List.map_map, List.getElem?_cons_zero, List.getElem?_cons_succ, withL, Out.fm, P.mkArgs, P.putAll, r55_3, ey]
    · unfold lE; simp (disch := omega) [-List.map_map, List.getElem?_cons_zero, List.getElem?_cons_succ, withL, Out.fm, P.mkArgs, P.putAll, r55_4, e3]
    · unfold lE; simp (disch := omega) [-List.map_map, List.getElem?_cons_zero, List.getElem?_cons_succ, withL, Out.fm, P.mkArgs, P.putAll, r55_6, e3]
    · unfold lE; simp (disch := omega) [-List.map_map, List.getElem?_cons_zero, List.getElem?_cons_succ, withL, Out.fm, P.mkArgs, P.putAll, r55_7, ex, ey]
    · unfold lE at *; simp (disch := omega) [-List.map_map, List.getElem?_cons_zero, List.getElem?_cons_succ, withL, Out.fm, P.mkArgs, P.putAll, r55_8, e4, fz, ub, two]
    · unfold lE; simp (disch := omega) [-List.map_map, List.getElem?_cons_zero, List.getElem?_cons_succ, withL, Out.fm, P.mkArgs, P.putAll, r55_9]
  unfold fr_law_right
  apply runP_rt rfl
  exact st
def Purse (n : Nat) (s : P.Slot) : Prop := ∃ a b c : Int, s = .ownL [.val (.int a), .val (.int b), .val (.int c)] ∧ 0 ≤ a ∧ 0 ≤ b ∧ b < 14000000000000000000000000000000000000000 ∧ 0 ≤ c ∧ c ≤ n
theorem v_purse (ns : List Int) (k : Nat) (hk : k ≤ 1000) : ∃ s, Purse 0 s ∧ fr_law_purse [.scr ns, .int k] = .ok s := by
  have all : ∀ x : Int, ∃ s, Purse 0 s ∧ s = .ownL [.val (.int (max 0 ((x.natAbs : Int) - 1000000000000000000))), .val (.int (x % 1000000000000000000000000000000000067 * 13 + 6007 * (k : Int) + 5)), .val (.int 0)] := fun x => by
    have h1 := Int.emod_nonneg x (b := 1000000000000000000000000000000000067) (by decide)
    have h2 := Int.emod_lt_of_pos x (b := 1000000000000000000000000000000000067) (by decide)
    exact ⟨_, ⟨_, _, _, rfl, by omega, by omega, by omega, by omega, by omega⟩, rfl⟩
  by_cases h : k < ns.length
  · obtain ⟨s, hs, e⟩ := all ns[k]
    refine ⟨s, hs, ?_⟩
    rw [e]
    simp (disch := omega) [-List.map_map, List.getElem?_cons_zero, List.getElem?_cons_succ, withL, Out.fm, P.mkArgs, P.putAll, fr_law_purse, runP, m_law_purse, h, powD_10]
  · obtain ⟨s, hs, e⟩ := all 0
    refine ⟨s, hs, ?_⟩
    rw [e]
    simp (disch := omega) [-List.map_map, List.getElem?_cons_zero, List.getElem?_cons_succ, withL, Out.fm, P.mkArgs, P.putAll, fr_law_purse, runP, m_law_purse, h, powD_10]
theorem v_coin {N : Nat} {s : P.Slot} {n : Int} (h : Purse N s) (hN : N < 1000000) (h0 : 0 < n) (h1 : n ≤ 1000000000000000000000000000000000000000000000000000000000000) : ∃ r s', 0 ≤ r ∧ r < n ∧ Purse (N + 1) s' ∧ fm_law_coin [s, .val (.int n)] = .ok (.val (.int r)) [s'] := by
  obtain ⟨a, b, c, rfl, ha, hb, hb2, hc, hc2⟩ := h
  have ef : fdivD (.int a) (.int n) = some (.int (a / n)) := if_pos ⟨h0, Nat.lt_of_lt_of_le (by omega : n.natAbs < 2 ^ 200) (Nat.pow_le_pow_right (by decide) (by decide))⟩
  by_cases z : a > 0
  · refine ⟨a % n, _, Int.emod_nonneg _ (by omega), Int.emod_lt_of_pos _ h0, ⟨a / n, b, c, rfl, Int.ediv_nonneg ha (by omega), hb, hb2, hc, by omega⟩, ?_⟩
    simp (disch := omega) [-List.map_map, List.getElem?_cons_zero, List.getElem?_cons_succ, withL, Out.fm, P.mkArgs, P.putAll, fm_law_coin, runM, m_law_coin, z, ef]
  · have e1 := Int.emod_nonneg ((b + 472882027 * (c + 1)) ^ 3) (b := 100000000000000000000000000000000000000109) (by decide)
    have e2 := Int.emod_lt_of_pos ((b + 472882027 * (c + 1)) ^ 3) (b := 100000000000000000000000000000000000000109) (by decide)
    refine ⟨(((b + 472882027 * (c + 1)) ^ 3 % 100000000000000000000000000000000000000109 + 373587883 * (c + 1)) ^ 3 % 10000000000000000000000000000000000000121) / 99989 % n, _, Int.emod_nonneg _ (by omega), Int.emod_lt_of_pos _ h0, ⟨a, b, c + 1, rfl, ha, hb, hb2, by omega, by omega⟩, ?_⟩
    simp (disch := omega) [-List.map_map, List.getElem?_cons_zero, List.getElem?_cons_succ, withL, Out.fm, P.mkArgs, P.putAll, fm_law_coin, runM, m_law_coin, z, powD_10, powD_2, powD_3]
theorem Purse.mono {n m : Nat} {s : P.Slot} (h : Purse n s) (e : n ≤ m) : Purse m s := by
  obtain ⟨a, b, c, e1, e2, e3, e4, e5, e6⟩ := h
  exact ⟨a, b, c, e1, e2, e3, e4, e5, by omega⟩
theorem Purse.unb {n : Nat} {s : P.Slot} (h : Purse n s) : s.isUnb = false := by
  obtain ⟨a, b, c, rfl, _⟩ := h
  rfl
def nE (s : P.Slot) (x1 x2 x3 x4 x5 : P.Slot) : P.Env := [s, x1, x2, x3, x4, x5]
theorem ix_in {L : List D} {r : Int} (h0 : 0 ≤ r) (h1 : r < L.length) : ∃ x ∈ L, ixD (.lst L) (.int r) = some x := by
  have hi : r.toNat < L.length := by omega
  exact ⟨L[r.toNat], List.getElem_mem _, by rw [ixD_l h0 h1, List.getElem?_eq_getElem hi]⟩
theorem p59 : powD (.int 10) (.int 59) = some (.int 100000000000000000000000000000000000000000000000000000000000) := powD_ok (by decide) (by decide)
theorem v_num1 {N : Nat} {s x5 : P.Slot} (h : Purse N s) (hN : N ≤ 900000) {b m : Int} (m2 : 2 ≤ m) (m200 : m ≤ 200) {ws : List Int} (hl : ws.length ≤ 1000) (i : Int) :
    ∃ (s' y5 : P.Slot) (w : Int), fb_law_numbers_1 (nE s (.val (.int b)) (.val (.int m)) (.ownL ((ws.map D.int).map .val)) (.val (.int i)) x5) = .nx (nE s' (.val (.int b)) (.val (.int m)) (.ownL (((ws ++ [w]).map D.int).map .val)) .unb y5) ∧ w.natAbs ≤ 10 ^ 60 ∧ Purse (N + 4) s' := by
  obtain ⟨a, s1, a0, a1, c1, e1⟩ := v_coin (n := m) h (by omega) (by omega) (by omega)
  obtain ⟨c, s2, c0, c1', c2, e2⟩ := v_coin (n := 999) c1 (by omega) (by omega) (by omega)
  obtain ⟨d, s3, d0, d1, c3, e3⟩ := v_coin (n := 100000000000000000000000000000000000000000000000000000000000) c2 (by omega) (by omega) (by omega)
  obtain ⟨r, s4, r0, r1, c4, e4⟩ := v_coin (n := 7) c3 (by omega) (by omega) (by omega)
  obtain ⟨r, rfl⟩ : ∃ q : Nat, r = (q : Int) := ⟨r.toNat, by omega⟩
  have hr : r < ([a, 0, 1, m - 1, m, 0 - c, d] : List Int).length := by simp; omega
  have hx : ([a, 0, 1, m - 1, m, 0 - c, d] : List Int)[r]? = some ([a, 0, 1, m - 1, m, 0 - c, d] : List Int)[r] := List.getElem?_eq_getElem hr
  have hm : ([a, 0, 1, m - 1, m, 0 - c, d] : List Int)[r] ∈ ([a, 0, 1, m - 1, m, 0 - c, d] : List Int) := List.getElem_mem _
  generalize ([a, 0, 1, m - 1, m, 0 - c, d] : List Int)[r] = w at *
  have ea := atI_ints hx
  have el : ((([a, 0, 1, m - 1, m, 0 - c, d] : List Int).map D.int).length : Int) = 7 := rfl
  have u0 := h.unb
  have u1 := c1.unb
  have u2 := c2.unb
  have u3 := c3.unb
  have u4 := c4.unb
  have hwl : (ws.map D.int).length < 1000000 := by rw [List.length_map]; omega
  refine ⟨s4, .ownL ((([a, 0, 1, m - 1, m, 0 - c, d] : List Int).map D.int).map .val), w, ?_, ?_, c4.mono (by omega)⟩
  · rw [b55_eq]
    refine fgt_nx (ρ1 := nE s4 (.val (.int b)) (.val (.int m)) (.ownL (((ws ++ [w]).map D.int).map .val)) (.val (.int i)) (.ownL ((([a, 0, 1, m - 1, m, 0 - c, d] : List Int).map D.int).map .val))) ?_ rfl
    refine seq_step (ρ1 := nE s2 (.val (.int b)) (.val (.int m)) (.ownL ((ws.map D.int).map .val)) (.val (.int i)) (.ownL ((([a, 0, 1, m - 1, m, 0 - c] : List Int).map D.int).map .val))) ?_ (seq_step (ρ1 := nE s3 (.val (.int b)) (.val (.int m)) (.ownL ((ws.map D.int).map .val)) (.val (.int i)) (.ownL ((([a, 0, 1, m - 1, m, 0 - c, d] : List Int).map D.int).map .val))) ?_ ?_)
    · generalize ws.map D.int = WL at *
      unfold nE; simp (disch := omega) [-List.map_map, List.getElem?_cons_zero, List.getElem?_cons_succ, withL, Out.fm, P.mkArgs, P.putAll, b55_0, u0, e1, u1, e2, u2]
    · generalize ws.map D.int = WL at *
      unfold nE; simp (disch := omega) [-List.map_map, List.getElem?_cons_zero, List.getElem?_cons_succ, withL, Out.fm, P.mkArgs, P.putAll, b55_1, p59, u2, e3, u3]
    · rw [List.map_append]
      show _ = Out.nx (nE _ _ _ (P.Slot.ownL ((ws.map D.int ++ [D.int w]).map P.Slot.val)) _ _)
      clear hx hm
      generalize ([a, 0, 1, m - 1, m, 0 - c, d] : List Int).map D.int = LL at *
      generalize ws.map D.int = WL at *
      unfold nE; simp (disch := omega) [-List.map_map, List.getElem?_cons_zero, List.getElem?_cons_succ, withL, Out.fm, P.mkArgs, P.putAll, b55_2, el, u3, e4, u4, ea, hwl]
  · simp only [List.mem_cons, List.not_mem_nil, or_false] at hm
    have : (10 : Nat) ^ 60 = 1000000000000000000000000000000000000000000000000000000000000 := by decide +kernel
    rw [this]
    rcases hm with rfl | rfl | rfl | rfl | rfl | rfl | rfl <;> omega
theorem v_numbers {N : Nat} {s : P.Slot} (h : Purse N s) (hN : N ≤ 800000) : ∃ (b : Nat) (m : Int) (ws : List Int) (r : Int) (s' : P.Slot), fm_law_numbers [s] = .ok (.val (numT b m ws r)) [s'] ∧ NW b m ws r ∧ Purse (N + 200) s' := by
  obtain ⟨a1, s1, a10, a11, c1, e1⟩ := v_coin (n := 35) h (by omega) (by omega) (by omega)
  obtain ⟨a2, s2, a20, a21, c2, e2⟩ := v_coin (n := 4) c1 (by omega) (by omega) (by omega)
  obtain ⟨x1, hx1, ex1⟩ := ix_in (L := [.int 2, .int 10, .int (2 + a1), .int 36]) a20 (by simp; omega)
  obtain ⟨b, rfl, b2, b36⟩ : ∃ b : Nat, x1 = .int (b : Int) ∧ 2 ≤ b ∧ b ≤ 36 := by
    simp only [List.mem_cons, List.not_mem_nil, or_false] at hx1
    rcases hx1 with rfl | rfl | rfl | rfl
    · exact ⟨2, rfl, by omega, by omega⟩
    · exact ⟨10, rfl, by omega, by omega⟩
    · exact ⟨(2 + a1).toNat, by rw [Int.toNat_of_nonneg (by omega)], by omega, by omega⟩
    · exact ⟨36, rfl, by omega, by omega⟩
  obtain ⟨b1, s3, b10, b11, c3, e3⟩ := v_coin (n := 14) c2 (by omega) (by omega) (by omega)
  obtain ⟨b2', s4, b20, b21, c4, e4⟩ := v_coin (n := 199) c3 (by omega) (by omega) (by omega)
  obtain ⟨b3, s5, b30, b31, c5, e5⟩ := v_coin (n := 4) c4 (by omega) (by omega) (by omega)
  obtain ⟨x2, hx2, ex2⟩ := ix_in (L := [.int (2 + b1), .int (b : Int), .int (2 + b2'), .int 200]) b30 (by simp; omega)
  obtain ⟨m, rfl, m2, m200⟩ : ∃ m : Int, x2 = .int m ∧ 2 ≤ m ∧ m ≤ 200 := by
    simp only [List.mem_cons, List.not_mem_nil, or_false] at hx2
    rcases hx2 with rfl | rfl | rfl | rfl <;> exact ⟨_, rfl, by omega, by omega⟩
  obtain ⟨k1, s6, k10, k11, c6, e6⟩ := v_coin (n := 8) c5 (by omega) (by omega) (by omega)
  obtain ⟨k2, s7, k20, k21, c7, e7⟩ := v_coin (n := 30) c6 (by omega) (by omega) (by omega)
  obtain ⟨k3, s8, k30, k31, c8, e8⟩ := v_coin (n := 3) c7 (by omega) (by omega) (by omega)
  obtain ⟨x3, hx3, ex3⟩ := ix_in (L := [.int (1 + k1), .int (1 + k2), .int 30]) k30 (by simp; omega)
  obtain ⟨K, rfl, K1, K30⟩ : ∃ K : Nat, x3 = .int (K : Int) ∧ 1 ≤ K ∧ K ≤ 30 := by
    simp only [List.mem_cons, List.not_mem_nil, or_false] at hx3
    rcases hx3 with rfl | rfl | rfl
    · exact ⟨(1 + k1).toNat, by rw [Int.toNat_of_nonneg (by omega)], by omega, by omega⟩
    · exact ⟨(1 + k2).toNat, by rw [Int.toNat_of_nonneg (by omega)], by omega, by omega⟩
    · exact ⟨30, rfl, by omega, by omega⟩
  obtain ⟨_, lp, s9, y5, ws, rfl, hws, hbig, c9⟩ := forL_inv (b := bName 4) (body := fb_law_numbers_1) (rngL 0 K) (fun i ρ => ∃ (s' y5 : P.Slot) (ws : List Int), ρ = nE s' (.val (.int (b : Int))) (.val (.int m)) (.ownL ((ws.map D.int).map .val)) .unb y5 ∧ ws.length = i ∧ (∀ w ∈ ws, w.natAbs ≤ 10 ^ 60) ∧ Purse (N + 8 + 4 * i) s') (by
    rintro i d ρ hd ⟨s', y5, ws, rfl, hws, hbig, c⟩
    obtain ⟨hi, rfl⟩ := get_lap hd
    obtain ⟨s'', z5, w, e, hw, c'⟩ := v_num1 (x5 := y5) c (by omega) (b := (b : Int)) m2 m200 (ws := ws) (by omega) (i : Int)
    exact ⟨_, _, rfl, e, s'', z5, ws ++ [w], rfl, by simp [hws], fun v hv => by
      rcases List.mem_append.mp hv with hv | hv
      · exact hbig v hv
      · simp at hv; subst hv; exact hw, c'.mono (by omega)⟩) (nE s8 (.val (.int (b : Int))) (.val (.int m)) (.ownL []) .unb .unb) ⟨s8, .unb, [], rfl, rfl, by simp, c8.mono (by omega)⟩
  rw [rngL_len] at hws c9
  obtain ⟨r1, s10, r10, r11, c10, e10⟩ := v_coin (n := m) c9 (by omega) (by omega) (by omega)
  obtain ⟨r2, s11, r20, r21, c11, e11⟩ := v_coin (n := 2) c10 (by omega) (by omega) (by omega)
  obtain ⟨x4, hx4, ex4⟩ := ix_in (L := [.int 0, .int r1]) r20 (by simp; omega)
  obtain ⟨r, rfl, r0, rm⟩ : ∃ r : Int, x4 = .int r ∧ 0 ≤ r ∧ r < m := by
    simp only [List.mem_cons, List.not_mem_nil, or_false] at hx4
    rcases hx4 with rfl | rfl <;> exact ⟨_, rfl, by omega, by omega⟩
  refine ⟨b, m, ws, r, s11, ?_, ⟨b2, b36, m2, m200, by omega, by omega, r0, rm, hbig⟩, c11.mono (by omega)⟩
  have u0 := h.unb
  have u1 := c1.unb
  have u2 := c2.unb
  have u3 := c3.unb
  have u4 := c4.unb
  have u5 := c5.unb
  have u6 := c6.unb
  have u7 := c7.unb
  have u8 := c8.unb
  have u9 := c9.unb
  have u10 := c10.unb
  have u11 := c11.unb
  have er : rng1 [.int (K : Int)] = some (rngL 0 K) := by rw [rng1_i (by omega) (by omega), Int.toNat_natCast]
  have et : tupleD [.lst (ws.map D.int)] = some (rowD ws) := rfl
  have st : m_law_numbers (startM 6 [s]) = .rt (.val (numT b m ws r)) (nE s11 (.val (.int (b : Int))) (.val (.int m)) (.val (.lst (ws.map D.int))) .unb y5) := by
    rw [n55_eq, show startM 6 [s] = nE s .unb .unb .unb .unb .unb from rfl]
    unfold numT
    generalize rowD ws = RD at *
    generalize ws.map D.int = WL at *
    generalize rngL 0 K = RL at *
    generalize (b : Int) = B at *
    refine seq_step (ρ1 := nE s2 (.val (.int B)) .unb .unb .unb .unb) ?_ (seq_step (ρ1 := nE s5 (.val (.int B)) (.val (.int m)) .unb .unb .unb) ?_ (seq_step (ρ1 := nE s5 (.val (.int B)) (.val (.int m)) (.ownL []) .unb .unb) ?_ (seq_step (ρ1 := nE s9 (.val (.int B)) (.val (.int m)) (.ownL (WL.map .val)) .unb y5) ?_ ((frz_step rfl fz_own).trans ?_))))
    · unfold nE; simp (disch := omega) [-List.map_map, List.getElem?_cons_zero, List.getElem?_cons_succ, withL, Out.fm, P.mkArgs, P.putAll, n55_0, u0, e1, u1, e2, u2, ex1]
    · unfold nE; simp (disch := omega) [-List.map_map, List.getElem?_cons_zero, List.getElem?_cons_succ, withL, Out.fm, P.mkArgs, P.putAll, n55_1, u2, e3, u3, e4, u4, e5, u5, ex2]
    · unfold nE; simp (disch := omega) [-List.map_map, List.getElem?_cons_zero, List.getElem?_cons_succ, withL, Out.fm, P.mkArgs, P.putAll, n55_2]
    · unfold nE at *; simp (disch := omega) [-List.map_map, List.getElem?_cons_zero, List.getElem?_cons_succ, withL, Out.fm, P.mkArgs, P.putAll, n55_3, u5, e6, u6, e7, u7, e8, u8, ex3, er, lp]
    · unfold nE; simp (disch := omega) [-List.map_map, List.getElem?_cons_zero, List.getElem?_cons_succ, withL, Out.fm, P.mkArgs, P.putAll, n55_4, et, u9, e10, u10, e11, u11, ex4]
  unfold fm_law_numbers
  apply runM_rt rfl
  case h => exact st
  case h2 => simp [Out.fm, nE, u11, numT]
theorem v_turn55 {N : Nat} {s : P.Slot} (h : Purse N s) (hN : N ≤ 700000) (sc k : P.Slot) (t : P.Slot) : ∃ s', fb_p_law_1 [sc, k, s, t] = .nx [sc, k, s', .unb] ∧ Purse (N + 200) s' := by
  obtain ⟨b, m, ws, r, s1, e1, nw, c1⟩ := v_numbers h (by omega)
  have u0 := h.unb
  have u1 := c1.unb
  have e2 := v_right55 nw
  refine ⟨s1, ?_, c1⟩
  generalize numT b m ws r = NT at *
  simp (disch := omega) [-List.map_map, List.getElem?_cons_zero, List.getElem?_cons_succ, withL, Out.fm, P.mkArgs, P.putAll, fb_p_law_1, u0, e1, u1, e2]
theorem v_cell55 (ns : List Int) (k : Nat) (hk : k ≤ 1000) {x2 : P.Slot} : ∃ s', fb_p_law_2 [.val (.scr ns), .val (.int (k : Int)), x2, .unb] = .nx [.val (.scr ns), .unb, s', .unb] := by
  obtain ⟨s, cs, es⟩ := v_purse ns k hk
  obtain ⟨_, e, s', rfl, c'⟩ := forL_inv (b := bName 3) (body := fb_p_law_1) (rngL 0 4) (fun i ρ => ∃ s, ρ = [.val (.scr ns), .val (.int (k : Int)), s, .unb] ∧ Purse (200 * i) s) (by
    rintro i d ρ hd ⟨s, rfl, dk⟩
    obtain ⟨hi, rfl⟩ := get_lap hd
    obtain ⟨s', e, c'⟩ := v_turn55 dk (by omega) (.val (.scr ns)) (.val (.int (k : Int))) (.val (.int (i : Int)))
    exact ⟨_, _, rfl, e, s', rfl, c'.mono (by omega)⟩) [.val (.scr ns), .val (.int (k : Int)), s, .unb] ⟨s, rfl, cs⟩
  refine ⟨s', ?_⟩
  have u0 := cs.unb
  rw [d55_eq]
  refine fgt_nx (ρ1 := [.val (.scr ns), .val (.int (k : Int)), s', .unb]) ?_ rfl
  refine seq_step (ρ1 := [.val (.scr ns), .val (.int (k : Int)), s, .unb]) ?_ ?_
  · exact set_nx (ρ1 := [.val (.scr ns), .val (.int (k : Int)), x2, .unb]) (by simp (disch := omega) [-List.map_map, List.getElem?_cons_zero, List.getElem?_cons_succ, withL, Out.fm, P.mkArgs, P.putAll, es]) u0
  · have er : rng1 [.int 4] = some (rngL 0 4) := rfl
    generalize D.scr ns = SC at *
    generalize rngL 0 4 = RL at *
    simp (disch := omega) [-List.map_map, List.getElem?_cons_zero, List.getElem?_cons_succ, withL, Out.fm, P.mkArgs, P.putAll, d55_1, er, e]
theorem nw1 : NW 36 200 (List.replicate 30 199) 199 := ⟨by decide, by decide, by decide, by decide, by decide, by decide, by decide, by decide, fun w hw => by rw [List.eq_of_mem_replicate hw]; decide +kernel⟩
theorem nw2 : NW 2 2 [-1] 1 := ⟨by decide, by decide, by decide, by decide, by decide, by decide, by decide, by decide, fun w hw => by simp at hw; subst hw; decide +kernel⟩
theorem nw3 : NW 10 11 [1, 2, 14] 0 := ⟨by decide, by decide, by decide, by decide, by decide, by decide, by decide, by decide, fun w hw => by simp at hw; rcases hw with rfl | rfl | rfl <;> decide +kernel⟩
theorem nw4 : NW 2 2 [0] 0 := ⟨by decide, by decide, by decide, by decide, by decide, by decide, by decide, by decide, fun w hw => by simp at hw; subst hw; decide +kernel⟩
theorem pg3 : pageN 10 11 [1, 2, 14] 0 = "10 11 0 1 2 3" := by decide +kernel
theorem pg4 : pageN 2 2 [0] 0 = "2 2 0 0" := by decide +kernel
theorem tm1 : mulD (.tup [.int 199]) (.int 30) = some (rowD (List.replicate 30 199)) := rfl
theorem tr1 : fr_law_right [.tup [.int 36, .int 200, rowD (List.replicate 30 199), .int 199]] = .ok (.val (.bl true)) := v_right55 nw1
theorem tr2 : fr_law_right [.tup [.int 2, .int 2, .tup [.int (-1)], .int 1]] = .ok (.val (.bl true)) := v_right55 nw2
theorem tf3 : fr_p_format_weights [.int 10, .int 11, .tup [.int 1, .int 2, .int 14], .int 0] = .ok (.val (.str "10 11 0 1 2 3")) := by
  have f3 := v_formatW nw3
  rw [pg3] at f3
  exact f3
theorem tp4 : fr_p_parse_weights [.str "2 2 0 0"] = .ok (ruleS (wrule 2 2 [0] 0)) := by
  have p4 := v_parse nw4
  rw [pg4] at p4
  exact p4
theorem tln : lenI "Rule" fr_p_Rule___len__ [ruleD (wrule 2 2 [0] 0)] = some (.int 1) := v_len (R := wrule 2 2 [0] 0) (by decide)
theorem teq3 : eqD (.str "10 11 0 1 2 3") (.str "10 11 0 1 2 3") = some (.bl true) := by simp
theorem g1a {SC R30 : D} {s' : P.Slot} {F : D → D → Option D} (m1 : F (.tup [.int 199]) (.int 30) = some R30) : (bop F (tupM (consA (cst (.int 199)) nilA)) (cst (.int 30))) [.val SC, .unb, s', .unb] = .ok R30 [.val SC, .unb, s', .unb] := by
  simp (disch := omega) [-List.map_map, List.getElem?_cons_zero, List.getElem?_cons_succ, withL, Out.fm, P.mkArgs, P.putAll, m1]
theorem g1c {SC : D} {s' : P.Slot} : (uop negD (cst (.int 1))) [.val SC, .unb, s', .unb] = .ok (.int (-1)) [.val SC, .unb, s', .unb] := by simp (disch := omega) [-List.map_map, List.getElem?_cons_zero, List.getElem?_cons_succ, withL, Out.fm, P.mkArgs, P.putAll]
theorem g1b {SC R30 : D} {s' : P.Slot} {mm nn : M D} (h1 : mm [.val SC, .unb, s', .unb] = .ok R30 [.val SC, .unb, s', .unb]) (h2 : nn [.val SC, .unb, s', .unb] = .ok (.int (-1)) [.val SC, .unb, s', .unb]) (r1 : fr_law_right [.tup [.int 36, .int 200, R30, .int 199]] = .ok (.val (.bl true))) (r2 : fr_law_right [.tup [.int 2, .int 2, .tup [.int (-1)], .int 1]] = .ok (.val (.bl true))) :
  (ifS (orB (notB (tst (fzM (callM fr_law_right 1 0 (fun ds _ => ds) (consA (tupM (consA (cst (.int 36)) (consA (cst (.int 200)) (consA mm (consA (cst (.int 199)) nilA))))) nilA) nilA)))) (notB (tst (fzM (callM fr_law_right 1 0 (fun ds _ => ds) (consA (tupM (consA (cst (.int 2)) (consA (cst (.int 2)) (consA (tupM (consA nn nilA)) (consA (cst (.int 1)) nilA))))) nilA) nilA))))) (retS (vl (cst (.bl false)))) nop) [.val SC, .unb, s', .unb] = .nx [.val SC, .unb, s', .unb] := by
  generalize fr_law_right = F at *
  simp (disch := omega) [-List.map_map, List.getElem?_cons_zero, List.getElem?_cons_succ, withL, Out.fm, P.mkArgs, P.putAll, h1, h2, r1, r2]
theorem g1 {SC R30 : D} {s' : P.Slot} (m1 : mulD (.tup [.int 199]) (.int 30) = some R30) (r1 : fr_law_right [.tup [.int 36, .int 200, R30, .int 199]] = .ok (.val (.bl true))) (r2 : fr_law_right [.tup [.int 2, .int 2, .tup [.int (-1)], .int 1]] = .ok (.val (.bl true))) : e55_1 [.val SC, .unb, s', .unb] = .nx [.val SC, .unb, s', .unb] :=
  g1b (g1a m1) g1c r1 r2
theorem g2 {SC RD : D} {RS s' : P.Slot} (f3 : fr_p_format_weights [.int 10, .int 11, .tup [.int 1, .int 2, .int 14], .int 0] = .ok (.val (.str "10 11 0 1 2 3"))) (eq3 : eqD (.str "10 11 0 1 2 3") (.str "10 11 0 1 2 3") = some (.bl true)) (p4 : fr_p_parse_weights [.str "2 2 0 0"] = .ok RS) (fz : RS.fz = some RD) (ub : RS.isUnb = false) (ln : lenI "Rule" fr_p_Rule___len__ [RD] = some (.int 1)) : e55_2 [.val SC, .unb, s', .unb] = .rt (.val (.bl true)) [.val SC, .unb, s', .unb] := by
  simp (disch := omega) [-List.map_map, List.getElem?_cons_zero, List.getElem?_cons_succ, withL, Out.fm, P.mkArgs, P.putAll, e55_2, f3, eq3, p4, fz, ub, ln]
theorem good (ns : List Int) (hl : ns.length ≤ 63) : fr_p_law [.scr ns] = .ok (.val (.bl true)) := by
  obtain ⟨k, hk, ek⟩ : ∃ k : Nat, k ≤ 6 ∧ max 1 (min 6 (ns.length : Int)) = (k : Int) := ⟨(max 1 (min 6 (ns.length : Int))).toNat, by omega, by omega⟩
  obtain ⟨_, e, s', rfl⟩ := forL_inv (b := bName 1) (body := fb_p_law_2) (rngL 0 k) (fun i ρ => ∃ s, ρ = [.val (.scr ns), .unb, s, .unb]) (by
    rintro i d ρ hd ⟨s, rfl⟩
    obtain ⟨hi, rfl⟩ := get_lap hd
    obtain ⟨s', e⟩ := v_cell55 ns i (by omega) (x2 := s)
    exact ⟨_, _, rfl, e, s', rfl⟩) [.val (.scr ns), .unb, .unb, .unb] ⟨.unb, rfl⟩
  have er : rng1 [.int (max 1 (min 6 (ns.length : Int)))] = some (rngL 0 k) := by rw [ek, rng1_i (by omega) (by omega), Int.toNat_natCast]
  have el := lenD_c (ns := ns)
  have st : m_p_law (startE 4 [.scr ns]) = .rt (.val (.bl true)) [.val (.scr ns), .unb, s', .unb] := by
    rw [e55_eq, show startE 4 [D.scr ns] = [.val (.scr ns), .unb, .unb, .unb] from rfl]
    refine seq_step (ρ1 := [.val (.scr ns), .unb, s', .unb]) ?_ (seq_step (g1 tm1 tr1 tr2) (g2 tf3 teq3 tp4 (ruleS_fz _) (ruleS_unb _) tln))
    generalize rngL 0 k = RL at *
    generalize (ns.length : Int) = N at *
    generalize D.scr ns = SC at *
    simp (disch := omega) [-List.map_map, List.getElem?_cons_zero, List.getElem?_cons_succ, withL, Out.fm, P.mkArgs, P.putAll, e55_0, el, er, e]
  unfold fr_p_law
  apply runP_rt rfl
  exact st
end V
theorem good (ns : List Int) (hl : ns.length ≤ 63) : fr_p_law [.scr ns] = .ok (.val (.bl true)) := V.good ns hl
end Lw
theorem PySem.Challenge.cw_checkdigits_k55_weights_written_holds : PySem.Challenge.rw_checkdigits_k55_weights_written.Holds := by
  exact Lw.end_ Lw.good
