import PyProof.Rows.All
import Wide.All
import OpenK.AllK
import Wide.FinOn
import HandS.ForMost
import HandS.TupAny
import HandS.Star
import HandS.Walk
import HandS.Conv
import HandS.Zip
import HandS.IsInst
import HandS.Deep
import HandS.SortOrd
import HandS.Wide
import KE.SortData
import KE.DataCmp
import HandS.Style
import PyProof.TupleOfSeq
import HandS.DictTup
import HandS.TupLen
import PyProof.Draws
import PyProof.EnumMake
import PySem.Challenge.RW_morelistpicks_k04_whole_heads_along_orde
set_option Elab.async false
set_option linter.all false
set_option maxRecDepth 100000
set_option maxHeartbeats 4000123
/-! PfA: data, slots, the state of a frame, steps. -/
namespace Pf
open L2 PyProof.Rows PySem PySem.Spec
/-! ### data in a frozen part F of the heap -/
def encK : Key → PyData
  | .inl i => .int i
  | .inr s => .str s
def encKs (ks : List Key) : PyData := .tuple (ks.map encK)
mutual
inductive Rel (K : PySem.W.Frag) (F : Hp) : V → PyData → Prop
  | non : Rel K F .non .none
  | bl (b : Bool) : Rel K F (.bl b) (.bool b)
  | int (i : Int) : Rel K F (.int i) (.int i)
  | str (x : Str) : Rel K F (.str x) (.str x)
  | lst {a : Addr} {xs : List V} {ds : List PyData} : SqL K F a xs → RelAll K F xs ds → Rel K F (.ref a) (.list ds)
  | tup {a : Addr} {xs : List V} {ds : List PyData} : F a = some (.tup xs) → RelAll K F xs ds → Rel K F (.ref a) (.tuple ds)
  | dK {a : Addr} {kvs : List (Key × V)} {ds : List (PyData × PyData)} : Rd F a (.dK kvs) → (kvs = [] → F a = some (.dK kvs)) → RelK K F kvs ds → Rel K F (.ref a) (.dict ds)
  | dT {a : Addr} {kvs : List (List Key × V)} {ds : List (PyData × PyData)} : Rd F a (.dT kvs) → (kvs = [] → F a = some (.dT kvs)) → RelT K F kvs ds → Rel K F (.ref a) (.dict ds)
inductive RelAll (K : PySem.W.Frag) (F : Hp) : List V → List PyData → Prop
  | nil : RelAll K F [] []
  | cons {v : V} {vs : List V} {d : PyData} {ds : List PyData} : Rel K F v d → RelAll K F vs ds → RelAll K F (v :: vs) (d :: ds)
inductive RelK (K : PySem.W.Frag) (F : Hp) : List (Key × V) → List (PyData × PyData) → Prop
  | nil : RelK K F [] []
  | cons {k : Key} {v : V} {kvs : List (Key × V)} {d : PyData} {ds : List (PyData × PyData)} : Rel K F v d → RelK K F kvs ds → RelK K F ((k, v) :: kvs) ((encK k, d) :: ds)
inductive RelT (K : PySem.W.Frag) (F : Hp) : List (List Key × V) → List (PyData × PyData) → Prop
  | nil : RelT K F [] []
  | cons {k : List Key} {v : V} {kvs : List (List Key × V)} {d : PyData} {ds : List (PyData × PyData)} : Rel K F v d → RelT K F kvs ds → RelT K F ((k, v) :: kvs) ((encKs k, d) :: ds)
end
section
variable {K : PySem.W.Frag} {F F' : Hp}
theorem Same.rd {a : Addr} {u : HO} (e : Same F F') (h : Rd F a u) : Rd F' a u := by
  rcases h with h | ⟨o, h⟩
  · exact .inl (e _ _ h)
  · exact .inr ⟨o, e _ _ h⟩
theorem Same.sql {a : Addr} {xs : List V} (e : Same F F') (h : SqL K F a xs) : SqL K F' a xs := e.seq h
theorem Same.sqt {a : Addr} {xs : List V} (e : Same F F') (h : SqT K F a xs) : SqT K F' a xs := by
  rcases h with h | h
  · exact .inl (Same.rd e h)
  · exact .inr h
mutual
theorem Rel.mono (e : Same F F') : ∀ {v : V} {d : PyData}, Rel K F v d → Rel K F' v d
  | _, _, .non => .non
  | _, _, .bl b => .bl b
  | _, _, .int i => .int i
  | _, _, .str x => .str x
  | _, _, .lst h r => .lst (Same.sql e h) (r.mono e)
  | _, _, .tup h r => .tup (e _ _ h) (r.mono e)
  | _, _, .dK h z r => .dK (Same.rd e h) (fun q => e _ _ (z q)) (r.mono e)
  | _, _, .dT h z r => .dT (Same.rd e h) (fun q => e _ _ (z q)) (r.mono e)
theorem RelAll.mono (e : Same F F') : ∀ {vs : List V} {ds : List PyData}, RelAll K F vs ds → RelAll K F' vs ds
  | _, _, .nil => .nil
  | _, _, .cons h r => .cons (h.mono e) (r.mono e)
theorem RelK.mono (e : Same F F') : ∀ {vs : List (Key × V)} {ds : List (PyData × PyData)}, RelK K F vs ds → RelK K F' vs ds
  | _, _, .nil => .nil
  | _, _, .cons h r => .cons (h.mono e) (r.mono e)
theorem RelT.mono (e : Same F F') : ∀ {vs : List (List Key × V)} {ds : List (PyData × PyData)}, RelT K F vs ds → RelT K F' vs ds
  | _, _, .nil => .nil
  | _, _, .cons h r => .cons (h.mono e) (r.mono e)
end
theorem RelAll.length : ∀ {vs : List V} {ds : List PyData}, RelAll K F vs ds → vs.length = ds.length
  | _, _, .nil => rfl
  | _, _, .cons _ r => by rw [List.length_cons, List.length_cons, r.length]
theorem RelAll.get : ∀ {vs : List V} {ds : List PyData} {i : Nat} {d : PyData}, RelAll K F vs ds → ds[i]? = some d → ∃ v, vs[i]? = some v ∧ Rel K F v d
  | _, _, _, _, .nil, e => by simp at e
  | _, _, 0, _, .cons h _, e => by simp at e; subst e; exact ⟨_, rfl, h⟩
  | _, _, i + 1, d, .cons _ r, e => by
    obtain ⟨v, h1, h2⟩ := RelAll.get (i := i) (d := d) r (by simpa using e)
    exact ⟨v, by simpa using h1, h2⟩
theorem RelAll.getV {vs : List V} {ds : List PyData} {i : Nat} {v : V} (r : RelAll K F vs ds) (e : vs[i]? = some v) : ∃ d, ds[i]? = some d ∧ Rel K F v d := by
  have hl := r.length
  obtain ⟨hi, _⟩ := List.getElem?_eq_some_iff.mp e
  have e2 : ds[i]? = some (ds[i]'(by omega)) := List.getElem?_eq_getElem (by omega)
  obtain ⟨v', h1, h2⟩ := r.get e2
  rw [e] at h1
  cases h1
  exact ⟨_, e2, h2⟩
theorem RelAll.append : ∀ {vs ws : List V} {ds es : List PyData}, RelAll K F vs ds → RelAll K F ws es → RelAll K F (vs ++ ws) (ds ++ es)
  | _, _, _, _, .nil, s => s
  | _, _, _, _, .cons h r, s => .cons h (r.append s)
theorem RelAll.take : ∀ {vs : List V} {ds : List PyData} (n : Nat), RelAll K F vs ds → RelAll K F (vs.take n) (ds.take n)
  | _, _, 0, _ => .nil
  | _, _, _ + 1, .nil => .nil
  | _, _, n + 1, .cons h r => .cons h (r.take n)
theorem RelAll.drop : ∀ {vs : List V} {ds : List PyData} (n : Nat), RelAll K F vs ds → RelAll K F (vs.drop n) (ds.drop n)
  | _, _, 0, r => r
  | _, _, _ + 1, .nil => .nil
  | _, _, n + 1, .cons _ r => r.drop n
theorem RelAll.reverse {vs : List V} {ds : List PyData} (r : RelAll K F vs ds) : RelAll K F vs.reverse ds.reverse := by
  have go : ∀ (vs : List V) (ws : List V) (ds es : List PyData), RelAll K F vs ds → RelAll K F ws es → RelAll K F (vs.reverseAux ws) (ds.reverseAux es) := by
    intro vs
    induction vs with
    | nil => intro ws ds es h s; cases h; exact s
    | cons v vs ih => intro ws ds es h s; cases h with | cons h r => exact ih (_ :: ws) _ (_ :: es) r (.cons h s)
  exact go _ _ _ _ r .nil
theorem RelAll.set : ∀ {vs : List V} {ds : List PyData} (i : Nat) {v : V} {d : PyData}, Rel K F v d → RelAll K F vs ds → RelAll K F (vs.set i v) (ds.set i d)
  | _, _, _, _, _, _, .nil => .nil
  | _, _, 0, _, _, h, .cons _ r => .cons h r
  | _, _, i + 1, _, _, h, .cons g r => .cons g (RelAll.set i h r)
theorem RelAll.erase : ∀ {vs : List V} {ds : List PyData} (i : Nat), RelAll K F vs ds → RelAll K F (vs.eraseIdx i) (ds.eraseIdx i)
  | _, _, _, .nil => .nil
  | _, _, 0, .cons _ r => r
  | _, _, i + 1, .cons g r => .cons g (RelAll.erase i r)
theorem RelAll.dropLast {vs : List V} {ds : List PyData} (h : RelAll K F vs ds) : RelAll K F vs.dropLast ds.dropLast := by
  rw [List.dropLast_eq_take, List.dropLast_eq_take, h.length]
  exact h.take _
theorem RelAll.ints : ∀ {vs : List V} {ns : List Int}, RelAll K F vs (ns.map PyData.int) → vs = ns.map V.int
  | _, [], .nil => rfl
  | _, _ :: _, .cons (.int i) r => by rw [List.map_cons, ← r.ints]
theorem RelAll.of_ints : ∀ (ns : List Int), RelAll K F (ns.map V.int) (ns.map PyData.int)
  | [] => .nil
  | n :: ns => .cons (.int n) (RelAll.of_ints ns)
theorem RelAll.bools : ∀ {vs : List V} {ns : List Bool}, RelAll K F vs (ns.map PyData.bool) → vs = ns.map V.bl
  | _, [], .nil => rfl
  | _, _ :: _, .cons (.bl i) r => by rw [List.map_cons, ← r.bools]
theorem RelAll.strs : ∀ {vs : List V} {ns : List Str}, RelAll K F vs (ns.map PyData.str) → vs = ns.map V.str
  | _, [], .nil => rfl
  | _, _ :: _, .cons (.str i) r => by rw [List.map_cons, ← r.strs]
end
/-! ### dict-free data, to the library's Dp -/
mutual
def noDict : PyData → Bool
  | .list xs => noDicts xs
  | .tuple xs => noDicts xs
  | .dict _ => false
  | _ => true
def noDicts : List PyData → Bool
  | [] => true
  | x :: xs => noDict x && noDicts xs
end
mutual
/-- no list and no dict within -/
def imm : PyData → Bool
  | .list _ => false
  | .tuple xs => imms xs
  | .dict _ => false
  | _ => true
def imms : List PyData → Bool
  | [] => true
  | x :: xs => imm x && imms xs
end
theorem imms_cons {d : PyData} {ds : List PyData} (n : imms (d :: ds) = true) : imm d = true ∧ imms ds = true := by simpa [imms] using n
theorem noDicts_cons {d : PyData} {ds : List PyData} (n : noDicts (d :: ds) = true) : noDict d = true ∧ noDicts ds = true := by simpa [noDicts] using n
section
variable {K : PySem.W.Frag} {F F' : Hp}
mutual
theorem Rel.dp : ∀ {v : V} {d : PyData}, Rel K F v d → noDict d = true → Dp K F v d
  | _, _, .non, _ => .non
  | _, _, .bl b, _ => .bl b
  | _, _, .int i, _ => .int i
  | _, _, .str x, _ => .str x
  | _, _, .lst h r, n => .lst h (r.dp (by simpa [noDict] using n))
  | _, _, .tup h r, n => .tup (SqT.of h) (r.dp (by simpa [noDict] using n))
  | _, _, .dK _ _ _, n => by simp [noDict] at n
  | _, _, .dT _ _ _, n => by simp [noDict] at n
theorem RelAll.dp : ∀ {vs : List V} {ds : List PyData}, RelAll K F vs ds → noDicts ds = true → DpAll K F vs ds
  | _, _, .nil, _ => .nil
  | _, d :: ds, .cons h r, n => .cons (h.dp (noDicts_cons n).1) (r.dp (noDicts_cons n).2)
end
mutual
theorem imm_noDict : ∀ (d : PyData), imm d = true → noDict d = true
  | .list _, h => by simp [imm] at h
  | .tuple xs, h => by simp only [noDict]; exact imms_noDicts xs (by simpa [imm] using h)
  | .dict _, h => by simp [imm] at h
  | .none, _ => by simp [noDict]
  | .bool _, _ => by simp [noDict]
  | .int _, _ => by simp [noDict]
  | .str _, _ => by simp [noDict]
theorem imms_noDicts : ∀ (ds : List PyData), imms ds = true → noDicts ds = true
  | [], _ => by simp [noDicts]
  | d :: ds, h => by
    have h' : imm d = true ∧ imms ds = true := by simpa [imms] using h
    simp only [noDicts, imm_noDict d h'.1, imms_noDicts ds h'.2, Bool.and_self]
end
/-- data without lists and dicts leans on tuples alone -/
def SameT (F F' : Hp) : Prop := ∀ b xs, F b = some (.tup xs) → F' b = some (.tup xs)
mutual
theorem Rel.tuples (e : SameT F F') : ∀ {v : V} {d : PyData}, Rel K F v d → imm d = true → Rel K F' v d
  | _, _, .non, _ => .non
  | _, _, .bl b, _ => .bl b
  | _, _, .int i, _ => .int i
  | _, _, .str x, _ => .str x
  | _, _, .lst h r, n => by simp [imm] at n
  | _, _, .tup h r, n => .tup (e _ _ h) (r.tuples e (by simpa [imm] using n))
  | _, _, .dK _ _ _, n => by simp [imm] at n
  | _, _, .dT _ _ _, n => by simp [imm] at n
theorem RelAll.tuples (e : SameT F F') : ∀ {vs : List V} {ds : List PyData}, RelAll K F vs ds → imms ds = true → RelAll K F' vs ds
  | _, _, .nil, _ => .nil
  | _, d :: ds, .cons h r, n => .cons (h.tuples e (imms_cons n).1) (r.tuples e (imms_cons n).2)
end
end
/-! ### slots -/
inductive Slot where
  /-- nothing is known -/
  | no
  /-- data that nobody changes any more -/
  | val (d : PyData)
  /-- a list or dict that this frame alone holds, its items frozen -/
  | own (d : PyData)
  /-- the law's source of draws, [[cells], blend], held by this frame alone -/
  | deal (cs : List Int) (b : Int)
  deriving Inhabited
def OwnAt (K : PySem.W.Frag) (F H : Hp) (a : Addr) : PyData → Prop
  | .list ds => ∃ xs, H a = some (.lst xs) ∧ RelAll K F xs ds
  | .dict ds => (∃ kvs, H a = some (.dK kvs) ∧ RelK K F kvs ds) ∨ ∃ kvs, H a = some (.dT kvs) ∧ RelT K F kvs ds
  | _ => False
inductive SlotR (K : PySem.W.Frag) (F H : Hp) : Slot → Option V → List Addr → Prop
  | no {o : Option V} : SlotR K F H .no o []
  | val {d : PyData} {v : V} : Rel K F v d → SlotR K F H (.val d) (some v) []
  | own {d : PyData} {a : Addr} : OwnAt K F H a d → SlotR K F H (.own d) (some (.ref a)) [a]
  | deal {cs : List Int} {b : Int} {a c : Addr} : H a = some (.lst [.ref c, .int b]) → H c = some (.lst (cs.map .int)) → SlotR K F H (.deal cs b) (some (.ref a)) [a, c]
inductive SR (K : PySem.W.Frag) (F H : Hp) : List Slot → L2.St → List Addr → Prop
  | nil : SR K F H [] [] []
  | cons {s : Slot} {env : List Slot} {o : Option V} {σ : L2.St} {f fp : List Addr} : SlotR K F H s o f → SR K F H env σ fp → SR K F H (s :: env) (o :: σ) (f ++ fp)
/-- every tuple is frozen -/
def Tups (F H : Hp) : Prop := ∀ b xs, H b = some (.tup xs) → F b = some (.tup xs)
/-- the state of a frame: F the frozen part, fp what the frame owns -/
structure Stt (K : PySem.W.Frag) (F H : Hp) (env : List Slot) (σ : L2.St) (fp : List Addr) : Prop where
  sub : Same F H
  rel : SR K F H env σ fp
  nd : fp.Nodup
  out : ∀ a ∈ fp, F a = none
  tup : Tups F H
/-- what may have happened -/
structure Step (F H : Hp) (fp : List Addr) (F' H' : Hp) (fp' : List Addr) : Prop where
  fz : Same F F'
  keep : ∀ b o, H b = some o → b ∉ fp → H' b = some o
  newF : ∀ b o, F' b = some o → F b = some o ∨ b ∈ fp ∨ H b = none
  newP : ∀ b ∈ fp', b ∈ fp ∨ H b = none
section
variable {K : PySem.W.Frag} {F F' F1 F2 H H' H1 H2 : Hp} {env env' : List Slot} {σ σ' : L2.St} {fp fp' fp1 fp2 f : List Addr} {s : Slot} {o : Option V}
theorem Step.refl : Step F H fp F H fp := ⟨Same.refl _, fun _ _ h _ => h, fun _ _ h => .inl h, fun _ h => .inl h⟩
theorem Step.back {b : Addr} (a : Step F H fp F1 H1 fp1) (h : H1 b = none) : b ∈ fp ∨ H b = none := by
  cases e : H b with
  | none => exact .inr rfl
  | some o =>
    by_cases m : b ∈ fp
    · exact .inl m
    · rw [a.keep b o e m] at h
      cases h
theorem Step.trans (a : Step F H fp F1 H1 fp1) (b : Step F1 H1 fp1 F2 H2 fp2) : Step F H fp F2 H2 fp2 where
  fz := a.fz.trans b.fz
  keep := fun c o h n => b.keep c o (a.keep c o h n) fun m => by
    rcases a.newP c m with z | z
    · exact n z
    · rw [h] at z; cases z
  newF := fun c o h => by
    rcases b.newF c o h with z | z | z
    · exact a.newF c o z
    · exact .inr (a.newP c z)
    · exact .inr (a.back z)
  newP := fun c h => by
    rcases b.newP c h with z | z
    · exact a.newP c z
    · exact a.back z
theorem OwnAt.there {a : Addr} {d : PyData} (h : OwnAt K F H a d) : ∃ o, H a = some o ∧ Mut (some o) := by
  cases d with
  | list ds => obtain ⟨xs, e, _⟩ := h; exact ⟨_, e, trivial⟩
  | dict ds =>
    rcases h with ⟨_, e, _⟩ | ⟨_, e, _⟩
    · exact ⟨_, e, trivial⟩
    · exact ⟨_, e, trivial⟩
  | none => exact h.elim
  | bool _ => exact h.elim
  | int _ => exact h.elim
  | str _ => exact h.elim
  | tuple _ => exact h.elim
theorem OwnAt.mono {a : Addr} {d : PyData} (e : Same F F') (k : H' a = H a) (h : OwnAt K F H a d) : OwnAt K F' H' a d := by
  cases d with
  | list ds => obtain ⟨xs, h1, h2⟩ := h; exact ⟨xs, k.trans h1, h2.mono e⟩
  | dict ds =>
    rcases h with ⟨xs, h1, h2⟩ | ⟨xs, h1, h2⟩
    · exact .inl ⟨xs, k.trans h1, h2.mono e⟩
    · exact .inr ⟨xs, k.trans h1, h2.mono e⟩
  | none => exact h.elim
  | bool _ => exact h.elim
  | int _ => exact h.elim
  | str _ => exact h.elim
  | tuple _ => exact h.elim
theorem SlotR.mono (e : Same F F') (k : ∀ a ∈ f, H' a = H a) (h : SlotR K F H s o f) : SlotR K F' H' s o f := by
  cases h with
  | no => exact .no
  | val r => exact .val (r.mono e)
  | own r => exact .own (r.mono e (k _ (by simp)))
  | deal h1 h2 => exact .deal ((k _ (by simp)).trans h1) ((k _ (by simp)).trans h2)
theorem SlotR.there (h : SlotR K F H s o f) : ∀ a ∈ f, ∃ u, H a = some u ∧ Mut (some u) := by
  intro a m
  cases h with
  | no => simp at m
  | val r => simp at m
  | own r =>
    rcases List.mem_cons.mp m with e | m
    · subst e; exact r.there
    · simp at m
  | deal h1 h2 =>
    rcases List.mem_cons.mp m with e | m
    · subst e; exact ⟨_, h1, trivial⟩
    · rcases List.mem_cons.mp m with e | m
      · subst e; exact ⟨_, h2, trivial⟩
      · simp at m
theorem SR.there (h : SR K F H env σ fp) : ∀ a ∈ fp, ∃ u, H a = some u ∧ Mut (some u) := by
  induction h with
  | nil => intro a m; simp at m
  | cons h _ ih =>
    intro a m
    rcases List.mem_append.mp m with m | m
    · exact h.there a m
    · exact ih a m
theorem SR.mono (e : Same F F') (h : SR K F H env σ fp) (k : ∀ a ∈ fp, H' a = H a) : SR K F' H' env σ fp := by
  induction h with
  | nil => exact .nil
  | cons h _ ih => exact .cons (h.mono e fun a m => k a (List.mem_append_left _ m)) (ih fun a m => k a (List.mem_append_right _ m))
theorem SR.len (h : SR K F H env σ fp) : env.length = σ.length := by
  induction h with
  | nil => rfl
  | cons _ _ ih => rw [List.length_cons, List.length_cons, ih]
/-- one slot taken out: its own part, the rest; another may be put there -/
theorem SR.at_ (h : SR K F H env σ fp) : ∀ {i : Nat} {s : Slot}, env[i]? = some s → ∃ o f fa fb, σ[i]? = some o ∧ SlotR K F H s o f ∧ fp = fa ++ f ++ fb ∧
    ∀ {F' H' : Hp} {s' : Slot} {o' : Option V} {f' : List Addr}, Same F F' → (∀ a ∈ fa ++ fb, H' a = H a) → SlotR K F' H' s' o' f' → SR K F' H' (env.set i s') (σ.set i o') (fa ++ f' ++ fb) := by
  induction h with
  | nil => intro i s e; simp at e
  | @cons s0 env o0 σ f0 fp h r ih =>
    intro i s e
    cases i with
    | zero =>
      simp at e
      subst e
      refine ⟨o0, f0, [], fp, rfl, h, by simp, ?_⟩
      intro F' H' s' o' f' e k h'
      exact .cons h' (r.mono e fun a m => k a (by simpa using m))
    | succ i =>
      simp at e
      obtain ⟨o, f, fa, fb, h1, h2, h3, h4⟩ := ih e
      refine ⟨o, f, f0 ++ fa, fb, by simpa using h1, h2, by rw [h3]; simp, ?_⟩
      intro F' H' s' o' f' e k h'
      have q := h4 e (fun a m => k a (by
        rcases List.mem_append.mp m with m | m
        · exact List.mem_append_left _ (List.mem_append_right _ m)
        · exact List.mem_append_right _ m)) h'
      have q2 := h.mono e (fun a m => k a (List.mem_append_left _ (List.mem_append_left _ m)))
      have q3 : SR K F' H' (s0 :: env.set i s') (o0 :: σ.set i o') (f0 ++ (fa ++ f' ++ fb)) := .cons q2 q
      simpa using q3
theorem SR.set_o (h : SR K F H env σ fp) : ∀ {i : Nat} {o o' : Option V}, σ[i]? = some o → o = o' → σ.set i o' = σ := by
  intro i o o' e z
  subst z
  obtain ⟨hi, e⟩ := List.getElem?_eq_some_iff.mp e
  rw [← e]
  exact List.set_getElem_self hi
end
end Pf
/-! PfB: states moved, operands, readings. -/
namespace Pf
open L2 PyProof.Rows PySem PySem.Spec
/-! ### moves of the state -/
/-- only new objects have come -/
structure New (F H F' H' : Hp) : Prop where
  fz : Same F F'
  all : Same H H'
  sub : Same F' H'
  newF : ∀ b o, F' b = some o → F b = some o ∨ H b = none
  tup : Tups F H → Tups F' H'
theorem same_sub2 {F H : Hp} {a : Addr} {o : HO} (s : Same F H) (hF : F a = none) (hH : H a = some o) : Same (upd F a o) H := fun b u e => by
  by_cases h : b = a
  · subst h; rw [upd_same] at e; cases e; exact hH
  · rw [upd_ne h] at e; exact s b u e
theorem same_upd1 {F : Hp} {a : Addr} {o : HO} (h : F a = none) : Same F (upd F a o) := fun b u e => by
  rw [upd_ne (ne_of_none e h)]; exact e
theorem same_none {F H : Hp} {a : Addr} (s : Same F H) (h : H a = none) : F a = none := s.free h
section
variable {K : PySem.W.Frag} {F F' F1 F2 H H' H1 H2 : Hp} {env env' : List Slot} {σ σ' : L2.St} {fp fp' fp1 fp2 f : List Addr} {s : Slot} {o : Option V}
theorem New.refl (s : Same F H) : New F H F H := ⟨Same.refl _, Same.refl _, s, fun _ _ h => .inl h, fun h => h⟩
theorem New.trans (a : New F H F1 H1) (b : New F1 H1 F2 H2) : New F H F2 H2 := ⟨a.fz.trans b.fz, a.all.trans b.all, b.sub, fun c o h => by
  rcases b.newF c o h with z | z
  · exact a.newF c o z
  · exact .inr (a.all.free z), fun h => b.tup (a.tup h)⟩
/-- a new object that stays open -/
theorem New.open_ {p : Addr} {u : HO} (s : Same F H) (h : H p = none) (nt : ∀ xs, u ≠ .tup xs) : New F H F (upd H p u) := ⟨Same.refl _, same_upd1 h, s.trans (same_upd1 h), fun _ _ h => .inl h, fun t b xs e => by
  by_cases hb : b = p
  · subst hb; rw [upd_same] at e; exact absurd (Option.some.inj e) (nt xs)
  · rw [upd_ne hb] at e; exact t b xs e⟩
/-- a new object, frozen at once -/
theorem New.shut {p : Addr} {u : HO} (s : Same F H) (h : H p = none) : New F H (upd F p u) (upd H p u) := by
  have hF := same_none s h
  refine ⟨same_upd1 hF, same_upd1 h, fun b o e => ?_, fun b o e => ?_, fun t b xs e => ?_⟩
  · by_cases hb : b = p
    · subst hb; rw [upd_same] at e ⊢; exact e
    · rw [upd_ne hb] at e ⊢; exact s b o e
  · by_cases hb : b = p
    · subst hb; exact .inr h
    · rw [upd_ne hb] at e; exact .inl e
  · by_cases hb : b = p
    · subst hb; rw [upd_same] at e ⊢; exact e
    · rw [upd_ne hb] at e ⊢; exact t b xs e
theorem New.step (n : New F H F' H') (there : ∀ a ∈ fp, ∃ u, H a = some u) : Step F H fp F' H' fp :=
  ⟨n.fz, fun b o h _ => n.all b o h, fun b o h => (n.newF b o h).elim .inl fun z => .inr (.inr z), fun _ h => .inl h⟩
theorem Stt.there (t : Stt K F H env σ fp) : ∀ a ∈ fp, ∃ u, H a = some u := fun a m => let ⟨u, h, _⟩ := t.rel.there a m; ⟨u, h⟩
theorem Stt.new (t : Stt K F H env σ fp) (n : New F H F' H') : Stt K F' H' env σ fp where
  sub := n.sub
  rel := t.rel.mono n.fz fun a m => by
    obtain ⟨u, h⟩ := t.there a m
    rw [h, n.all a u h]
  nd := t.nd
  out := fun a m => by
    cases e : F' a with
    | none => rfl
    | some o =>
      obtain ⟨u, h⟩ := t.there a m
      rcases n.newF a o e with z | z
      · rw [t.out a m] at z; cases z
      · rw [h] at z; cases z
  tup := n.tup t.tup
theorem Stt.len (t : Stt K F H env σ fp) : env.length = σ.length := t.rel.len
/-- a value laid on top -/
theorem Stt.push {v : V} (t : Stt K F H env σ fp) (h : SlotR K F H s (some v) f) (nd : f.Nodup) (ap : ∀ a ∈ f, a ∉ fp) (ou : ∀ a ∈ f, F a = none) : Stt K F H (s :: env) (some v :: σ) (f ++ fp) where
  sub := t.sub
  rel := .cons h t.rel
  nd := by
    refine List.nodup_append.mpr ⟨nd, t.nd, fun a ha b hb e => ?_⟩
    subst e
    exact ap a ha hb
  out := fun a m => (List.mem_append.mp m).elim (ou a) (t.out a)
  tup := t.tup
theorem Stt.pushV {v : V} {d : PyData} (t : Stt K F H env σ fp) (h : Rel K F v d) : Stt K F H (.val d :: env) (some v :: σ) fp := t.push (f := []) (.val h) List.nodup_nil (by simp) (by simp)
/-- behind New: a value whose parts are new -/
theorem Stt.pushN {v : V} (t : Stt K F H env σ fp) (n : New F H F' H') (h : SlotR K F' H' s (some v) f) (nd : f.Nodup) (nw : ∀ a ∈ f, H a = none ∧ F' a = none) :
    Stt K F' H' (s :: env) (some v :: σ) (f ++ fp) ∧ Step F H fp F' H' (f ++ fp) := by
  refine ⟨(t.new n).push h nd (fun a ha m => ?_) fun a ha => (nw a ha).2, ?_⟩
  · obtain ⟨u, e⟩ := t.there a m
    rw [(nw a ha).1] at e; cases e
  · have st := n.step t.there
    exact ⟨st.fz, st.keep, st.newF, fun b m => (List.mem_append.mp m).elim (fun z => .inr (nw b z).1) .inl⟩
/-- what a slot holds, as data -/
def Slot.dat : Slot → Option PyData
  | .val d => some d
  | .own d => some d
  | _ => none
/-- an own object is frozen: the frozen part grows by it -/
theorem OwnAt.freeze {a : Addr} {d : PyData} {u : HO} (h : OwnAt K F H a d) (hu : H a = some u) (hF : F a = none) : Rel K (upd F a u) (.ref a) d := by
  have sm : Same F (upd F a u) := same_upd1 hF
  cases d with
  | list ds =>
    obtain ⟨xs, e, r⟩ := h
    rw [hu] at e; cases e
    exact .lst (.inl (.inl upd_same)) (r.mono sm)
  | dict ds =>
    rcases h with ⟨kvs, e, r⟩ | ⟨kvs, e, r⟩
    · rw [hu] at e; cases e
      exact .dK (.inl upd_same) (fun _ => upd_same) (r.mono sm)
    · rw [hu] at e; cases e
      exact .dT (.inl upd_same) (fun _ => upd_same) (r.mono sm)
  | none => exact h.elim
  | bool _ => exact h.elim
  | int _ => exact h.elim
  | str _ => exact h.elim
  | tuple _ => exact h.elim
theorem tups_upd {a : Addr} {u : HO} (t : Tups F H) (hF : F a = none) : Tups (upd F a u) H := fun b xs e => by
  have q := t b xs e
  rw [upd_ne (ne_of_none q hF)]
  exact q
/-- the top value frozen -/
theorem Stt.freezeTop {v : V} {d : PyData} (t : Stt K F H (s :: env) (some v :: σ) fp) (hd : s.dat = some d) : ∃ F' fp', Step F H fp F' H fp' ∧ Stt K F' H env σ fp' ∧ Rel K F' v d := by
  obtain ⟨sub, rel, nd, out, tp⟩ := t
  cases rel with
  | @cons _ _ _ _ f fp1 h r =>
    cases h with
    | no => cases hd
    | val q =>
      cases hd
      refine ⟨F, fp1, Step.refl, ⟨sub, r, by simpa using nd, fun a m => out a (by simpa using m), tp⟩, q⟩
    | @own _ a q =>
      cases hd
      obtain ⟨u, hu, _⟩ := q.there
      have hF : F a = none := out a (by simp)
      have nd' : a ∉ fp1 ∧ fp1.Nodup := by simpa using nd
      refine ⟨upd F a u, fp1, ⟨same_upd1 hF, fun b o h _ => h, fun b o e => ?_, fun b m => .inl (by simp [m])⟩, ⟨same_sub2 sub hF hu, r.mono (same_upd1 hF) (fun _ _ => rfl), nd'.2, fun b m => ?_, tups_upd tp hF⟩, q.freeze hu hF⟩
      · by_cases hb : b = a
        · subst hb; exact .inr (.inl (by simp))
        · rw [upd_ne hb] at e; exact .inl e
      · rw [upd_ne (show b ≠ a from fun z => nd'.1 (by rw [← z]; exact m))]
        exact out b (by simp [m])
    | deal _ _ => cases hd
/-- a slot frozen -/
theorem Stt.freezeAt {i : Nat} {d : PyData} (t : Stt K F H env σ fp) (e : env[i]? = some s) (hd : s.dat = some d) :
    ∃ F' fp' v, Step F H fp F' H fp' ∧ Stt K F' H (env.set i (.val d)) σ fp' ∧ σ[i]? = some (some v) ∧ Rel K F' v d := by
  obtain ⟨sub, rel, nd, out, tp⟩ := t
  obtain ⟨o, f, fa, fb, h1, h2, h3, h4⟩ := rel.at_ e
  have keep : ∀ {o' : Option V}, o = o' → σ.set i o' = σ := fun z => SR.set_o rel h1 z
  cases h2 with
  | no => cases hd
  | @val _ v q =>
    cases hd
    have := h4 (H' := H) (Same.refl F) (fun _ _ => rfl) (SlotR.val (K := K) (H := H) q)
    rw [keep rfl] at this
    refine ⟨F, fp, v, Step.refl, ⟨sub, ?_, nd, out, tp⟩, h1, q⟩
    rw [h3]; exact this
  | @own _ a q =>
    cases hd
    obtain ⟨u, hu, _⟩ := q.there
    have hF : F a = none := out a (by rw [h3]; simp)
    have q' := q.freeze hu hF
    have := h4 (H' := H) (same_upd1 (o := u) hF) (fun _ _ => rfl) (SlotR.val (K := K) (H := H) q')
    rw [keep rfl] at this
    have nd' : (fa ++ [] ++ fb).Nodup ∧ a ∉ fa ++ [] ++ fb := by
      rw [h3] at nd
      have e1 : (fa ++ [a] ++ fb).Perm (a :: (fa ++ fb)) := by
        simpa using (List.perm_middle (a := a) (l₁ := fa) (l₂ := fb))
      have := e1.nodup_iff.mp nd
      have := List.nodup_cons.mp this
      exact ⟨by simpa using this.2, by simpa using this.1⟩
    refine ⟨upd F a u, fa ++ [] ++ fb, .ref a, ⟨same_upd1 hF, fun b o h _ => h, fun b o e => ?_, fun b m => .inl ?_⟩, ⟨same_sub2 sub hF hu, this, nd'.1, fun b m => ?_, tups_upd tp hF⟩, h1, q'⟩
    · by_cases hb : b = a
      · subst hb; exact .inr (.inl (by rw [h3]; simp))
      · rw [upd_ne hb] at e; exact .inl e
    · rw [h3]
      rcases List.mem_append.mp m with m | m
      · simp at m; simp [m]
      · simp [m]
    · rw [upd_ne (show b ≠ a from fun z => nd'.2 (by rw [← z]; exact m))]
      refine out b ?_
      rw [h3]
      rcases List.mem_append.mp m with m | m
      · simp at m; simp [m]
      · simp [m]
  | deal _ _ => cases hd
end
/-! ### operands: a name is read when all operands are there -/
inductive Opd where
  | nam (i : Nat) | dat (d : PyData)
def OpdR (K : PySem.W.Frag) (F : Hp) (σ : L2.St) : Opd → V → Prop
  | .nam i, v => σ[i]? = some (some v)
  | .dat d, v => Rel K F v d
theorem OpdR.mono {K : PySem.W.Frag} {F F' : Hp} {σ : L2.St} (e : Same F F') : ∀ {o : Opd} {v : V}, OpdR K F σ o v → OpdR K F' σ o v
  | .nam _, _, h => h
  | .dat _, _, h => Rel.mono e h
inductive OpdsR (K : PySem.W.Frag) (F : Hp) (σ : L2.St) : List Opd → List V → Prop
  | nil : OpdsR K F σ [] []
  | cons {o : Opd} {v : V} {os : List Opd} {vs : List V} : OpdR K F σ o v → OpdsR K F σ os vs → OpdsR K F σ (o :: os) (v :: vs)
theorem OpdsR.mono {K : PySem.W.Frag} {F F' : Hp} {σ : L2.St} (e : Same F F') {os : List Opd} {vs : List V} (h : OpdsR K F σ os vs) : OpdsR K F' σ os vs := by
  induction h with
  | nil => exact .nil
  | cons h _ ih => exact .cons (h.mono e) ih
/-- data that is frozen, or a list or dict held by a slot, its items frozen -/
def RelB (K : PySem.W.Frag) (F H : Hp) (v : V) (d : PyData) : Prop := Rel K F v d ∨ ∃ a, v = .ref a ∧ OwnAt K F H a d
inductive RelsB (K : PySem.W.Frag) (F H : Hp) : List V → List PyData → Prop
  | nil : RelsB K F H [] []
  | cons {v : V} {d : PyData} {vs : List V} {ds : List PyData} : RelB K F H v d → RelsB K F H vs ds → RelsB K F H (v :: vs) (d :: ds)
def look (env : List Slot) : Opd → Option PyData
  | .dat d => some d
  | .nam i => (env[i]?).bind Slot.dat
def looks (env : List Slot) : List Opd → Option (List PyData)
  | [] => some []
  | o :: os => (look env o).bind fun d => (looks env os).bind fun ds => some (d :: ds)
section
variable {K : PySem.W.Frag} {F F' H H' : Hp} {env env' : List Slot} {σ σ' : L2.St} {fp fp' f : List Addr} {s : Slot}
theorem SR.slot (h : SR K F H env σ fp) {i : Nat} (e : env[i]? = some s) : ∃ o f, σ[i]? = some o ∧ SlotR K F H s o f ∧ ∀ a ∈ f, a ∈ fp := by
  obtain ⟨o, f, fa, fb, h1, h2, h3, _⟩ := h.at_ e
  exact ⟨o, f, h1, h2, fun a m => by rw [h3]; simp [m]⟩
theorem look_rel {o : Opd} {v : V} {d : PyData} (t : Stt K F H env σ fp) (h : OpdR K F σ o v) (hl : look env o = some d) : RelB K F H v d := by
  cases o with
  | dat d' => cases hl; exact .inl h
  | nam i =>
    have h : σ[i]? = some (some v) := h
    have hl : (env[i]?).bind Slot.dat = some d := hl
    cases e : env[i]? with
    | none => rw [e] at hl; cases hl
    | some s =>
      rw [e] at hl
      obtain ⟨o, f, h1, h2, _⟩ := t.rel.slot e
      rw [h] at h1; cases h1
      have hl : s.dat = some d := hl
      cases h2 with
      | no => cases hl
      | val q => cases hl; exact .inl q
      | own q => cases hl; exact .inr ⟨_, rfl, q⟩
      | deal _ _ => cases hl
theorem looks_rel (t : Stt K F H env σ fp) {os : List Opd} {vs : List V} (h : OpdsR K F σ os vs) : ∀ {ds : List PyData}, looks env os = some ds → RelsB K F H vs ds := by
  induction h with
  | nil => intro ds e; cases e; exact .nil
  | @cons o v os vs h _ ih =>
    intro ds e
    unfold looks at e
    cases e1 : look env o with
    | none => rw [e1] at e; cases e
    | some d =>
      rw [e1] at e
      cases e2 : looks env os with
      | none => rw [e2] at e; cases e
      | some ds' =>
        rw [e2] at e
        cases e
        exact .cons (look_rel t h e1) (ih e2)
theorem RelB.toH {v : V} {d : PyData} (s : Same F H) (h : RelB K F H v d) : Rel K H v d := by
  rcases h with h | ⟨a, rfl, h⟩
  · exact h.mono s
  · cases d with
    | list ds => obtain ⟨xs, e, r⟩ := h; exact .lst (.inl (.inl e)) (r.mono s)
    | dict ds =>
      rcases h with ⟨xs, e, r⟩ | ⟨xs, e, r⟩
      · exact .dK (.inl e) (fun _ => e) (r.mono s)
      · exact .dT (.inl e) (fun _ => e) (r.mono s)
    | none => exact h.elim
    | bool _ => exact h.elim
    | int _ => exact h.elim
    | str _ => exact h.elim
    | tuple _ => exact h.elim
theorem RelsB.toH {vs : List V} {ds : List PyData} (s : Same F H) (h : RelsB K F H vs ds) : RelAll K H vs ds := by
  induction h with
  | nil => exact .nil
  | cons h _ ih => exact .cons (h.toH s) ih
theorem RelB.int {v : V} {i : Int} (h : RelB K F H v (.int i)) : v = .int i := by
  rcases h with h | ⟨a, rfl, h⟩
  · cases h; rfl
  · exact h.elim
theorem RelB.bl {v : V} {i : Bool} (h : RelB K F H v (.bool i)) : v = .bl i := by
  rcases h with h | ⟨a, rfl, h⟩
  · cases h; rfl
  · exact h.elim
theorem RelB.str {v : V} {i : Str} (h : RelB K F H v (.str i)) : v = .str i := by
  rcases h with h | ⟨a, rfl, h⟩
  · cases h; rfl
  · exact h.elim
theorem RelB.non {v : V} (h : RelB K F H v .none) : v = .non := by
  rcases h with h | ⟨a, rfl, h⟩
  · cases h; rfl
  · exact h.elim
theorem RelB.list {v : V} {ds : List PyData} (s : Same F H) (h : RelB K F H v (.list ds)) : ∃ a xs, v = .ref a ∧ SqL K H a xs ∧ RelAll K F xs ds := by
  rcases h with h | ⟨a, rfl, xs, e, r⟩
  · cases h with
    | lst h r => exact ⟨_, _, rfl, Same.sql s h, r⟩
  · exact ⟨a, xs, rfl, .inl (.inl e), r⟩
theorem RelB.tup {v : V} {ds : List PyData} (h : RelB K F H v (.tuple ds)) : ∃ a xs, v = .ref a ∧ F a = some (.tup xs) ∧ RelAll K F xs ds := by
  rcases h with h | ⟨a, rfl, h⟩
  · cases h with
    | tup h r => exact ⟨_, _, rfl, h, r⟩
  · exact h.elim
theorem RelB.dict {v : V} {ds : List (PyData × PyData)} (s : Same F H) (h : RelB K F H v (.dict ds)) : ∃ a, v = .ref a ∧ ((∃ kvs, Rd H a (.dK kvs) ∧ (kvs = [] → H a = some (.dK kvs)) ∧ RelK K F kvs ds) ∨ ∃ kvs, Rd H a (.dT kvs) ∧ (kvs = [] → H a = some (.dT kvs)) ∧ RelT K F kvs ds) := by
  rcases h with h | ⟨a, rfl, h⟩
  · cases h with
    | dK h z r => exact ⟨_, rfl, .inl ⟨_, Same.rd s h, fun q => s _ _ (z q), r⟩⟩
    | dT h z r => exact ⟨_, rfl, .inr ⟨_, Same.rd s h, fun q => s _ _ (z q), r⟩⟩
  · rcases h with ⟨kvs, e, r⟩ | ⟨kvs, e, r⟩
    · exact ⟨a, rfl, .inl ⟨kvs, .inl e, fun _ => e, r⟩⟩
    · exact ⟨a, rfl, .inr ⟨kvs, .inl e, fun _ => e, r⟩⟩
/-- operands frozen, from the left -/
def frzO (env : List Slot) : Opd → Option (PyData × List Slot)
  | .dat d => some (d, env)
  | .nam i => (env[i]?).bind fun s => s.dat.bind fun d => some (d, env.set i (.val d))
def frzOs (env : List Slot) : List Opd → Option (List PyData × List Slot)
  | [] => some ([], env)
  | o :: os => (frzO env o).bind fun p => (frzOs p.2 os).bind fun q => some (p.1 :: q.1, q.2)
theorem frzO_go {o : Opd} {v : V} {d : PyData} (t : Stt K F H env σ fp) (h : OpdR K F σ o v) (hl : frzO env o = some (d, env')) : ∃ F' fp', Step F H fp F' H fp' ∧ Stt K F' H env' σ fp' ∧ Rel K F' v d := by
  cases o with
  | dat d' => cases hl; exact ⟨F, fp, Step.refl, t, h⟩
  | nam i =>
    have hl : ((env[i]?).bind fun s => s.dat.bind fun d => some (d, env.set i (.val d))) = some (d, env') := hl
    cases e : env[i]? with
    | none => rw [e] at hl; cases hl
    | some s =>
      rw [e] at hl
      cases e2 : s.dat with
      | none => simp [e2] at hl
      | some d' =>
        simp [e2] at hl
        obtain ⟨rfl, rfl⟩ := hl
        obtain ⟨F', fp', v', h1, h2, h3, h4⟩ := t.freezeAt e e2
        have h : σ[i]? = some (some v) := h
        rw [h] at h3; cases h3
        exact ⟨F', fp', h1, h2, h4⟩
theorem frzOs_go {os : List Opd} : ∀ {vs : List V} {ds : List PyData} {env env' : List Slot} {F : Hp} {fp : List Addr}, Stt K F H env σ fp → OpdsR K F σ os vs → frzOs env os = some (ds, env') →
    ∃ F' fp', Step F H fp F' H fp' ∧ Stt K F' H env' σ fp' ∧ RelAll K F' vs ds := by
  induction os with
  | nil => intro vs ds env env' F fp t h e; cases h; cases e; exact ⟨F, fp, Step.refl, t, .nil⟩
  | cons o os ih =>
    intro vs ds env env' F fp t h e
    cases h with
    | @cons _ v _ vs h hr =>
      unfold frzOs at e
      cases e1 : frzO env o with
      | none => rw [e1] at e; cases e
      | some p =>
        obtain ⟨d, env1⟩ := p
        rw [e1] at e
        cases e2 : frzOs env1 os with
        | none => simp [e2] at e
        | some q =>
          obtain ⟨ds', env2⟩ := q
          simp [e2] at e
          obtain ⟨rfl, rfl⟩ := e
          obtain ⟨F1, fp1, s1, t1, r1⟩ := frzO_go t h e1
          obtain ⟨F2, fp2, s2, t2, r2⟩ := ih t1 (hr.mono s1.fz) e2
          exact ⟨F2, fp2, s1.trans s2, t2, .cons (r1.mono s2.fz) r2⟩
end
/-! ### readings -/
abbrev Env1 := List Slot
/-- an expression's operand -/
def tO (K : PySem.W.Frag) (r : Env1 → Option (Opd × Env1)) : TE := fun σ H Q => ∃ F env fp o env', Stt K F H env σ fp ∧ r env = some (o, env') ∧
  ∀ F' H' fp' v, Step F H fp F' H' fp' → Stt K F' H' env' σ fp' → OpdR K F' σ o v → Q v H'
/-- a row of operands -/
def tOs (K : PySem.W.Frag) (r : Env1 → Option (List Opd × Env1)) : TA := fun σ H Q => ∃ F env fp os env', Stt K F H env σ fp ∧ r env = some (os, env') ∧
  ∀ F' H' fp' vs, Step F H fp F' H' fp' → Stt K F' H' env' σ fp' → OpdsR K F' σ os vs → Q vs H'
/-- an expression's value, laid on top -/
def tV (K : PySem.W.Frag) (r : Env1 → Option (Slot × Env1)) : TE := fun σ H Q => ∃ F env fp s env', Stt K F H env σ fp ∧ r env = some (s, env') ∧
  ∀ F' H' fp' v, Step F H fp F' H' fp' → Stt K F' H' (s :: env') (some v :: σ) fp' → Q v H'
/-- a test -/
def tB' (K : PySem.W.Frag) (r : Env1 → Option (Bool × Env1)) : TT := fun σ H Q => ∃ F env fp b env', Stt K F H env σ fp ∧ r env = some (b, env') ∧
  ∀ F' H' fp', Step F H fp F' H' fp' → Stt K F' H' env' σ fp' → Q b H'
theorem PE.weak {X : Cx} {e : Expr} {t t' : TE} (h : PE X e t) (i : ∀ σ H Q, t' σ H Q → t σ H Q) : PE X e t' := ⟨fun pins s σ H Q I w => h.run pins s σ H Q I (i _ _ _ w)⟩
theorem PT.weak {X : Cx} {e : Expr} {t t' : TT} (h : PT X e t) (i : ∀ σ H Q, t' σ H Q → t σ H Q) : PT X e t' := ⟨fun pins s σ H Q I w => h.run pins s σ H Q I (i _ _ _ w)⟩
theorem PA.weak {X : Cx} {es : List Expr} {t t' : TA} (h : PA X es t) (i : ∀ σ H Q, t' σ H Q → t σ H Q) : PA X es t' := ⟨fun pos pins s σ H Q I w => h.run pos pins s σ H Q I (i _ _ _ w)⟩
theorem PS.weak {X : Cx} {st : Stmt} {t t' : TS} (h : PS X st t) (i : ∀ D σ H, t' D σ H → t D σ H) : PS X st t' := ⟨fun pins s σ H D I w => h.run pins s σ H D I (i _ _ _ w)⟩
theorem PSs.weak {X : Cx} {st : List Stmt} {t t' : TS} (h : PSs X st t) (i : ∀ D σ H, t' D σ H → t D σ H) : PSs X st t' := ⟨fun pins s σ H D I w => h.run pins s σ H D I (i _ _ _ w)⟩
/-- a value as an operand: frozen -/
def asO (r : Env1 → Option (Slot × Env1)) : Env1 → Option (Opd × Env1) := fun env => (r env).bind fun p => p.1.dat.bind fun d => some (.dat d, p.2)
theorem asO_imp {K : PySem.W.Frag} {r : Env1 → Option (Slot × Env1)} {σ : L2.St} {H : Hp} {Q : VK} (h : tO K (asO r) σ H Q) : tV K r σ H Q := by
  obtain ⟨F, env, fp, o, env', t, e, q⟩ := h
  unfold asO at e
  cases e1 : r env with
  | none => rw [e1] at e; cases e
  | some p =>
    obtain ⟨s, env1⟩ := p
    rw [e1] at e
    cases e2 : s.dat with
    | none => simp [e2] at e
    | some d =>
      simp [e2] at e
      obtain ⟨rfl, rfl⟩ := e
      refine ⟨F, env, fp, s, env1, t, e1, fun F' H' fp' v st t' => ?_⟩
      obtain ⟨F2, fp2, s2, t2, r2⟩ := t'.freezeTop e2
      exact q F2 H' fp2 v (st.trans s2) t2 r2
/-- a row from its parts -/
def consO (r : Env1 → Option (Opd × Env1)) (rs : Env1 → Option (List Opd × Env1)) : Env1 → Option (List Opd × Env1) := fun env => (r env).bind fun p => (rs p.2).bind fun q => some (p.1 :: q.1, q.2)
def nilO : Env1 → Option (List Opd × Env1) := fun env => some ([], env)
theorem consO_imp {K : PySem.W.Frag} {r : Env1 → Option (Opd × Env1)} {rs : Env1 → Option (List Opd × Env1)} {σ : L2.St} {H : Hp} {Q : List V → Hp → Prop} (h : tOs K (consO r rs) σ H Q) :
    tO K r σ H fun v H1 => tOs K rs σ H1 fun vs H2 => Q (v :: vs) H2 := by
  obtain ⟨F, env, fp, os, env', t, e, q⟩ := h
  unfold consO at e
  cases e1 : r env with
  | none => rw [e1] at e; cases e
  | some p =>
    obtain ⟨o, env1⟩ := p
    rw [e1] at e
    cases e2 : rs env1 with
    | none => simp [e2] at e
    | some p2 =>
      obtain ⟨os', env2⟩ := p2
      simp [e2] at e
      obtain ⟨rfl, rfl⟩ := e
      refine ⟨F, env, fp, o, env1, t, e1, fun F1 H1 fp1 v s1 t1 o1 => ?_⟩
      refine ⟨F1, env1, fp1, os', env2, t1, e2, fun F2 H2 fp2 vs s2 t2 o2 => ?_⟩
      exact q F2 H2 fp2 (v :: vs) (s1.trans s2) t2 (.cons (o1.mono s2.fz) o2)
theorem nilO_imp {K : PySem.W.Frag} {σ : L2.St} {H : Hp} {Q : List V → Hp → Prop} (h : tOs K nilO σ H Q) : Q [] H := by
  obtain ⟨F, env, fp, os, env', t, e, q⟩ := h
  cases e
  exact q F H fp [] Step.refl t .nil
/-- a primitive on data: what it gives is new or of old data -/
def rP (K : PySem.W.Frag) (g : List PyData → Option Slot) : List V → Hp → VK → Prop := fun vs H Q => ∃ F ds s, Same F H ∧ Tups F H ∧ RelsB K F H vs ds ∧ g ds = some s ∧
  ∀ F' H' v f, New F H F' H' → SlotR K F' H' s (some v) f → f.Nodup → (∀ a ∈ f, H a = none ∧ F' a = none) → Q v H'
def evP (g : List PyData → Option Slot) (rs : Env1 → Option (List Opd × Env1)) : Env1 → Option (Slot × Env1) := fun env => (rs env).bind fun p => (looks p.2 p.1).bind fun ds => (g ds).bind fun s => some (s, p.2)
theorem evP_imp {K : PySem.W.Frag} {g : List PyData → Option Slot} {rs : Env1 → Option (List Opd × Env1)} {σ : L2.St} {H : Hp} {Q : VK} (h : tV K (evP g rs) σ H Q) : tOs K rs σ H fun vs H1 => rP K g vs H1 Q := by
  obtain ⟨F, env, fp, s, env', t, e, q⟩ := h
  unfold evP at e
  cases e1 : rs env with
  | none => rw [e1] at e; cases e
  | some p =>
    obtain ⟨os, env1⟩ := p
    rw [e1] at e
    cases e2 : looks env1 os with
    | none => simp [e2] at e
    | some ds =>
      cases e3 : g ds with
      | none => simp [e2, e3] at e
      | some s' =>
        simp [e2, e3] at e
        obtain ⟨rfl, rfl⟩ := e
        refine ⟨F, env, fp, os, env1, t, e1, fun F1 H1 fp1 vs s1 t1 o1 => ?_⟩
        refine ⟨F1, ds, s', t1.sub, t1.tup, looks_rel t1 o1 e2, e3, fun F2 H2 v f n sl nd nw => ?_⟩
        obtain ⟨t2, s2⟩ := t1.pushN n sl nd nw
        exact q F2 H2 _ v (s1.trans s2) t2
end Pf
/-! PfC: primitives on data. -/
namespace Pf
open L2 PyProof.Rows PySem PySem.Spec
open Classical in
/-- a checked premise -/
noncomputable def given (p : Prop) (o : Option Slot) : Option Slot := if p then o else none
theorem given_some {p : Prop} {o : Option Slot} {s : Slot} (h : given p o = some s) : p ∧ o = some s := by
  unfold given at h
  split at h
  · rename_i q; exact ⟨q, h⟩
  · cases h
theorem given_pos {p : Prop} {o : Option Slot} (h : p) : given p o = o := if_pos h
/-- a size that the machine holds -/
def Fits (n : Nat) : Prop := n ≤ 16777216
theorem Fits.line {n : Nat} (h : Fits n) : n ≤ sizeLine := by rw [sizeLine_eq]; exact h
/-! ### ways to answer rP -/
section
variable {K : PySem.W.Frag} {g : List PyData → Option Slot} {vs : List V} {H : Hp} {Q : VK}
theorem OpR.weak {X : Cx} {f : Value → Value → Sem Value} {r r' : R2} (h : OpR X f r) (i : ∀ x y H Q, r' x y H Q → r x y H Q) : OpR X f r' := fun pins s σ H x y v u Q I rx ry q => h pins s σ H x y v u Q I rx ry (i _ _ _ _ q)
theorem UnR.weak {X : Cx} {f : Value → Sem Value} {r r' : V → Hp → VK → Prop} (h : UnR X f r) (i : ∀ x H Q, r' x H Q → r x H Q) : UnR X f r' := fun pins s σ H x v Q I rx q => h pins s σ H x v Q I rx (i _ _ _ q)
theorem CallR.weak {X : Cx} {f : Value} {r r' : List V → Hp → VK → Prop} (h : CallR X f r) (i : ∀ vs H Q, r' vs H Q → r vs H Q) : CallR X f r' := fun pins s σ H xs us Q I rx q => h pins s σ H xs us Q I rx (i _ _ _ q)
/-- by cases on several rules -/
theorem OpR.pick {X : Cx} {f : Value → Value → Sem Value} {r' : R2} (i : ∀ x y H Q, r' x y H Q → ∃ r, OpR X f r ∧ r x y H Q) : OpR X f r' := fun pins s σ H x y v u Q I rx ry q => by
  obtain ⟨r, h, q⟩ := i _ _ _ _ q
  exact h pins s σ H x y v u Q I rx ry q
theorem CallR.pick {X : Cx} {f : Value} {r' : List V → Hp → VK → Prop} (i : ∀ vs H Q, r' vs H Q → ∃ r, CallR X f r ∧ r vs H Q) : CallR X f r' := fun pins s σ H xs us Q I rx q => by
  obtain ⟨r, h, q⟩ := i _ _ _ q
  exact h pins s σ H xs us Q I rx q
abbrev r2P (K : PySem.W.Frag) (g : List PyData → Option Slot) : R2 := fun x y H Q => rP K g [x, y] H Q
/-- what is wanted, for an answer s -/
def Wants (K : PySem.W.Frag) (F H : Hp) (s : Slot) (Q : VK) : Prop := ∀ F' H' v f, New F H F' H' → SlotR K F' H' s (some v) f → f.Nodup → (∀ a ∈ f, H a = none ∧ F' a = none) → Q v H'
theorem Wants.old {F : Hp} {d : PyData} (w : Wants K F H (.val d) Q) (sm : Same F H) {v : V} (r : Rel K F v d) : Q v H := w F H v [] (New.refl sm) (.val r) List.nodup_nil (by simp)
theorem Wants.tup {F : Hp} {ds : List PyData} (w : Wants K F H (.val (.tuple ds)) Q) (sm : Same F H) {xs : List V} (r : RelAll K F xs ds) {p : Addr} (hp : H p = none) : Q (.ref p) (upd H p (.tup xs)) :=
  w (upd F p (.tup xs)) _ _ [] (New.shut sm hp) (.val (.tup upd_same (r.mono (same_upd1 (same_none sm hp))))) List.nodup_nil (by simp)
theorem Wants.lst {F : Hp} {ds : List PyData} (w : Wants K F H (.own (.list ds)) Q) (sm : Same F H) {xs : List V} (r : RelAll K F xs ds) {p : Addr} (hp : H p = none) : Q (.ref p) (upd H p (.lst xs)) :=
  w F _ _ [p] (New.open_ sm hp (fun _ z => nomatch z)) (.own ⟨xs, upd_same, r⟩) (by simp) (fun a m => (List.mem_singleton.mp m) ▸ ⟨hp, same_none sm hp⟩)
theorem Wants.dic {F : Hp} (w : Wants K F H (.own (.dict [])) Q) (sm : Same F H) {p : Addr} (hp : H p = none) : Q (.ref p) (upd H p (.dK [])) :=
  w F _ _ [p] (New.open_ sm hp (fun _ z => nomatch z)) (.own (.inl ⟨[], upd_same, .nil⟩)) (by simp) (fun a m => (List.mem_singleton.mp m) ▸ ⟨hp, same_none sm hp⟩)
theorem RelsB.one {F : Hp} {d : PyData} (h : RelsB K F H vs [d]) : ∃ v, vs = [v] ∧ RelB K F H v d := by
  cases h with | cons h r => cases r; exact ⟨_, rfl, h⟩
theorem RelsB.two {F : Hp} {d e : PyData} (h : RelsB K F H vs [d, e]) : ∃ v u, vs = [v, u] ∧ RelB K F H v d ∧ RelB K F H u e := by
  cases h with | cons h r => cases r with | cons h2 r => cases r; exact ⟨_, _, rfl, h, h2⟩
theorem RelsB.three {F : Hp} {d e c : PyData} (h : RelsB K F H vs [d, e, c]) : ∃ v u w, vs = [v, u, w] ∧ RelB K F H v d ∧ RelB K F H u e ∧ RelB K F H w c := by
  cases h with | cons h r => cases r with | cons h2 r => cases r with | cons h3 r => cases r; exact ⟨_, _, _, rfl, h, h2, h3⟩
end
/-! ### numbers -/
noncomputable def gAdd : List PyData → Option Slot
  | [.int a, .int b] => some (.val (.int (a + b)))
  | [.tuple xs, .tuple ys] => given (Fits (xs.length + ys.length)) (some (.val (.tuple (xs ++ ys))))
  | [.str x, .str y] => given (Fits (x.length + y.length)) (some (.val (.str (x ++ y))))
  | _ => none
def gSub : List PyData → Option Slot
  | [.int a, .int b] => some (.val (.int (a - b)))
  | _ => none
noncomputable def gMul : List PyData → Option Slot
  | [.int a, .int b] => given (CMulW a b) (some (.val (.int (a * b))))
  | _ => none
noncomputable def gMod : List PyData → Option Slot
  | [.int a, .int b] => given (0 < b) (some (.val (.int (a % b))))
  | _ => none
noncomputable def gFdiv : List PyData → Option Slot
  | [.int a, .int b] => given (CDivW a b) (some (.val (.int (a / b))))
  | _ => none
noncomputable def gPow : List PyData → Option Slot
  | [.int a, .int b] => given (CPow a b) (some (.val (.int (a ^ b.toNat))))
  | _ => none
def gNeg : List PyData → Option Slot
  | [.int a] => some (.val (.int (-a)))
  | _ => none
section
variable {X : Cx}
theorem op_gAdd : OpR X (binaryOp .Add) (r2P X.K gAdd) := by
  refine OpR.pick fun x y H Q h => ?_
  obtain ⟨F, ds, s, sm, tp, r, e, w⟩ := h
  unfold gAdd at e
  split at e
  · cases e
    obtain ⟨_, _, e, r1, r2⟩ := r.two
    cases e
    exact ⟨_, op_add, _, _, r1.int, r2.int, Wants.old w sm (.int _)⟩
  · obtain ⟨z, e⟩ := given_some e
    cases e
    obtain ⟨_, _, e, r1, r2⟩ := r.two
    cases e
    obtain ⟨a, xs, rfl, h1, q1⟩ := r1.tup
    obtain ⟨b, ys, rfl, h2, q2⟩ := r2.tup
    refine ⟨_, op_catA, a, b, xs, ys, rfl, rfl, SqT.of (sm _ _ h1), SqT.of (sm _ _ h2), by rw [q1.length, q2.length]; exact z.line, fun e => ?_, fun _ e => ?_, fun _ _ p hp => ?_⟩
    · subst e
      cases q1
      exact Wants.old w sm (.tup h2 q2)
    · subst e
      cases q2
      rw [List.append_nil] at w
      exact Wants.old w sm (.tup h1 q1)
    · exact Wants.tup w sm (q1.append q2) hp
  · obtain ⟨z, e⟩ := given_some e
    cases e
    obtain ⟨_, _, e, r1, r2⟩ := r.two
    cases e
    exact ⟨_, op_add_str, _, _, r1.str, r2.str, z.line, Wants.old w sm (.str _)⟩
  · cases e
theorem op_gSub : OpR X (binaryOp .Sub) (r2P X.K gSub) := by
  refine OpR.weak op_sub fun x y H Q h => ?_
  obtain ⟨F, ds, s, sm, tp, r, e, w⟩ := h
  unfold gSub at e
  split at e
  · cases e
    obtain ⟨_, _, e, r1, r2⟩ := r.two
    cases e
    exact ⟨_, _, r1.int, r2.int, Wants.old w sm (.int _)⟩
  · cases e
theorem op_gMul : OpR X (binaryOp .Mult) (r2P X.K gMul) := by
  refine OpR.weak op_mulW fun x y H Q h => ?_
  obtain ⟨F, ds, s, sm, tp, r, e, w⟩ := h
  unfold gMul at e
  split at e
  · obtain ⟨z, e⟩ := given_some e
    cases e
    obtain ⟨_, _, e, r1, r2⟩ := r.two
    cases e
    exact ⟨_, _, r1.int, r2.int, z, Wants.old w sm (.int _)⟩
  · cases e
theorem op_gMod : OpR X (binaryOp .Mod) (r2P X.K gMod) := by
  refine OpR.weak op_mod fun x y H Q h => ?_
  obtain ⟨F, ds, s, sm, tp, r, e, w⟩ := h
  unfold gMod at e
  split at e
  · obtain ⟨z, e⟩ := given_some e
    cases e
    obtain ⟨_, _, e, r1, r2⟩ := r.two
    cases e
    exact ⟨_, _, r1.int, r2.int, z, Wants.old w sm (.int _)⟩
  · cases e
theorem op_gFdiv : OpR X (binaryOp .FloorDiv) (r2P X.K gFdiv) := by
  refine OpR.weak op_fdivW fun x y H Q h => ?_
  obtain ⟨F, ds, s, sm, tp, r, e, w⟩ := h
  unfold gFdiv at e
  split at e
  · obtain ⟨z, e⟩ := given_some e
    cases e
    obtain ⟨_, _, e, r1, r2⟩ := r.two
    cases e
    exact ⟨_, _, r1.int, r2.int, z, Wants.old w sm (.int _)⟩
  · cases e
theorem op_gPow : OpR X (binaryOp .Pow) (r2P X.K gPow) := by
  refine OpR.weak op_pow fun x y H Q h => ?_
  obtain ⟨F, ds, s, sm, tp, r, e, w⟩ := h
  unfold gPow at e
  split at e
  · obtain ⟨z, e⟩ := given_some e
    cases e
    obtain ⟨_, _, e, r1, r2⟩ := r.two
    cases e
    exact ⟨_, _, r1.int, r2.int, z, Wants.old w sm (.int _)⟩
  · cases e
theorem un_gNeg : UnR X (unaryOp .USub) (fun x H Q => rP X.K gNeg [x] H Q) := by
  refine UnR.weak un_neg fun x H Q h => ?_
  obtain ⟨F, ds, s, sm, tp, r, e, w⟩ := h
  unfold gNeg at e
  split at e
  · cases e
    obtain ⟨_, e, r1⟩ := r.one
    cases e
    exact ⟨_, r1.int, Wants.old w sm (.int _)⟩
  · cases e
end
/-! ### comparisons -/
/-- data that == and < may meet -/
def Sh (d : PyData) : Prop := noDict d = true ∧ SeqAt.shaped d = true
noncomputable def gEq : List PyData → Option Slot
  | [d, e] => given (Sh d ∧ Sh e) (some (.val (.bool (PyData.eqv d e))))
  | _ => none
noncomputable def gNe : List PyData → Option Slot
  | [d, e] => given (Sh d ∧ Sh e) (some (.val (.bool (!PyData.eqv d e))))
  | _ => none
def Cmp2 (d e : PyData) : Prop := Sh d ∧ Sh e ∧ PySem.W.alike d e = true ∧ d ≠ .none
noncomputable def gLt : List PyData → Option Slot
  | [d, e] => given (Cmp2 d e) (some (.val (.bool (PySem.W.dataLt d e))))
  | _ => none
noncomputable def gGt : List PyData → Option Slot
  | [d, e] => given (Cmp2 d e) (some (.val (.bool (PySem.W.dataLt e d))))
  | _ => none
noncomputable def gLe : List PyData → Option Slot
  | [d, e] => given (Cmp2 d e) (some (.val (.bool (!PySem.W.dataLt e d))))
  | _ => none
noncomputable def gGe : List PyData → Option Slot
  | [d, e] => given (Cmp2 d e) (some (.val (.bool (!PySem.W.dataLt d e))))
  | _ => none
def isNone : PyData → Bool
  | .none => true
  | _ => false
def gIs : List PyData → Option Slot
  | [d, .none] => some (.val (.bool (isNone d)))
  | _ => none
def gIsNot : List PyData → Option Slot
  | [d, .none] => some (.val (.bool (!isNone d)))
  | _ => none
section
variable {X : Cx}
theorem op_gEq (hu : X.A.units + 200 < cLine) : OpR X (compareOp .Eq) (r2P X.K gEq) := by
  refine OpR.weak (op_eqD (by omega)) fun x y H Q h => ?_
  obtain ⟨F, ds, s, sm, tp, r, e, w⟩ := h
  unfold gEq at e
  split at e
  · obtain ⟨⟨z1, z2⟩, e⟩ := given_some e
    cases e
    obtain ⟨_, _, e, r1, r2⟩ := r.two
    cases e
    exact ⟨_, _, (r1.toH sm).dp z1.1, (r2.toH sm).dp z2.1, z1.2, z2.2, Wants.old w sm (.bl _)⟩
  · cases e
theorem op_gNe (hu : X.A.units + 200 < cLine) : OpR X (compareOp .NotEq) (r2P X.K gNe) := by
  refine OpR.weak (op_neD (by omega)) fun x y H Q h => ?_
  obtain ⟨F, ds, s, sm, tp, r, e, w⟩ := h
  unfold gNe at e
  split at e
  · obtain ⟨⟨z1, z2⟩, e⟩ := given_some e
    cases e
    obtain ⟨_, _, e, r1, r2⟩ := r.two
    cases e
    exact ⟨_, _, (r1.toH sm).dp z1.1, (r2.toH sm).dp z2.1, z1.2, z2.2, Wants.old w sm (.bl _)⟩
  · cases e
theorem depth_of {d : PyData} (h : SeqAt.shaped d = true) : d.depth ≤ 64 := by
  unfold SeqAt.shaped at h
  rw [Bool.and_eq_true] at h
  exact of_decide_eq_true h.2
/-- the ordering operators, on data -/
theorem op_data {f : Value → Value → Sem Value} {g : List PyData → Option Slot} {t : PyData → PyData → Bool} (hu : X.A.units + 200 < cLine) (hg : ∀ ds s, g ds = some s → ∃ d e, ds = [d, e] ∧ Cmp2 d e ∧ s = .val (.bool (t d e)))
    (hf : ∀ {s : Shared} {a b : Value} {da db : PyData} {as bs : List Addr} {Q : Value → Shared → Prop}, Reads s.heap a da as → Reads s.heap b db bs → PySem.W.alike da db = true → da ≠ .none → X.A.units + min da.depth db.depth < cLine → Q (.bool (t da db)) s → wpAny (model X.prog X.w) X.A (f a b) Q X.xe s) :
    OpR X f (r2P X.K g) := by
  intro pins s σ H x y v u Q I rx ry h
  obtain ⟨F, ds, sl, sm, tp, r, e, w⟩ := h
  obtain ⟨d, e, rfl, ⟨z1, z2, z3, z4⟩, rfl⟩ := hg _ _ e
  obtain ⟨_, _, e, r1, r2⟩ := r.two
  cases e
  obtain ⟨as, q1⟩ := Dp.reads I d x v ((r1.toH sm).dp z1.1) rx
  obtain ⟨bs, q2⟩ := Dp.reads I _ y u ((r2.toH sm).dp z2.1) ry
  have h1 := depth_of z1.2
  exact hf q1 q2 z3 z4 (by omega) ⟨.bl _, H, I, rfl, Wants.old w sm (.bl _)⟩
theorem op_gLt (hu : X.A.units + 200 < cLine) : OpR X (compareOp .Lt) (r2P X.K gLt) := op_data hu (fun ds s e => by
  unfold gLt at e
  split at e
  · obtain ⟨z, e⟩ := given_some e
    cases e
    exact ⟨_, _, rfl, z, rfl⟩
  · cases e) fun a b c d e q => PySem.W.lt_data a b c d e q
theorem op_gGt (hu : X.A.units + 200 < cLine) : OpR X (compareOp .Gt) (r2P X.K gGt) := op_data (t := fun d e => PySem.W.dataLt e d) hu (fun ds s e => by
  unfold gGt at e
  split at e
  · obtain ⟨z, e⟩ := given_some e
    cases e
    exact ⟨_, _, rfl, z, rfl⟩
  · cases e) fun a b c d e q => PySem.W.gt_data a b c d e q
theorem op_gLe (hu : X.A.units + 200 < cLine) : OpR X (compareOp .LtE) (r2P X.K gLe) := op_data (t := fun d e => !PySem.W.dataLt e d) hu (fun ds s e => by
  unfold gLe at e
  split at e
  · obtain ⟨z, e⟩ := given_some e
    cases e
    exact ⟨_, _, rfl, z, rfl⟩
  · cases e) fun a b c d e q => PySem.W.le_data a b c d e q
theorem op_gGe (hu : X.A.units + 200 < cLine) : OpR X (compareOp .GtE) (r2P X.K gGe) := op_data (t := fun d e => !PySem.W.dataLt d e) hu (fun ds s e => by
  unfold gGe at e
  split at e
  · obtain ⟨z, e⟩ := given_some e
    cases e
    exact ⟨_, _, rfl, z, rfl⟩
  · cases e) fun a b c d e q => PySem.W.ge_data a b c d e q
theorem none_iff {K : PySem.W.Frag} {F H : Hp} {v : V} {d : PyData} (h : RelB K F H v d) : decide (v = .non) = isNone d := by
  rcases h with h | ⟨a, rfl, h⟩
  · cases h <;> rfl
  · cases d <;> first | rfl | exact h.elim
theorem op_gIs : OpR X (compareOp .Is) (r2P X.K gIs) := by
  refine OpR.weak op_isN fun x y H Q h => ?_
  obtain ⟨F, ds, s, sm, tp, r, e, w⟩ := h
  unfold gIs at e
  split at e
  · cases e
    obtain ⟨_, _, e, r1, r2⟩ := r.two
    cases e
    exact ⟨r2.non, by rw [none_iff r1]; exact Wants.old w sm (.bl _)⟩
  · cases e
theorem op_gIsNot : OpR X (compareOp .IsNot) (r2P X.K gIsNot) := by
  refine OpR.weak op_notN fun x y H Q h => ?_
  obtain ⟨F, ds, s, sm, tp, r, e, w⟩ := h
  unfold gIsNot at e
  split at e
  · cases e
    obtain ⟨_, _, e, r1, r2⟩ := r.two
    cases e
    exact ⟨r2.non, by rw [none_iff r1]; exact Wants.old w sm (.bl _)⟩
  · cases e
end
end Pf
/-! PfD: membership, items, slices, dicts, built-in functions. -/
namespace Pf
open L2 PyProof.Rows PySem PySem.Spec
noncomputable instance : DecidableEq PyData := fun a b => Classical.propDecidable (a = b)
/-! ### dicts as data -/
noncomputable def dget (ds : List (PyData × PyData)) (k : PyData) : Option PyData := (ds.find? fun p => decide (p.1 = k)).map (·.2)
noncomputable def dput (ds : List (PyData × PyData)) (k v : PyData) : List (PyData × PyData) :=
  if (ds.any fun p => decide (p.1 = k)) = true then ds.map fun p => if p.1 = k then (p.1, v) else p else ds ++ [(k, v)]
theorem encK_inj : ∀ {a b : Key}, encK a = encK b → a = b
  | .inl i, .inl j, h => by simp [encK] at h; rw [h]
  | .inl _, .inr _, h => by simp [encK] at h
  | .inr _, .inl _, h => by simp [encK] at h
  | .inr i, .inr j, h => by simp [encK] at h; rw [h]
theorem encKs_inj {a b : List Key} (h : encKs a = encKs b) : a = b := by
  have h' : a.map encK = b.map encK := by simpa [encKs] using h
  clear h
  induction a generalizing b with
  | nil => cases b with
    | nil => rfl
    | cons _ _ => simp at h'
  | cons x a ih => cases b with
    | nil => simp at h'
    | cons y b =>
      simp only [List.map_cons, List.cons.injEq] at h'
      rw [encK_inj h'.1, ih h'.2]
section
variable {K : PySem.W.Frag} {F H : Hp}
inductive ROpt (K : PySem.W.Frag) (F : Hp) : Option V → Option PyData → Prop
  | none : ROpt K F none none
  | some {v : V} {d : PyData} : Rel K F v d → ROpt K F (some v) (some d)
theorem RelK.get : ∀ {kvs : List (Key × V)} {ds : List (PyData × PyData)} (k : Key), RelK K F kvs ds → ROpt K F (valV kvs k) (dget ds (encK k))
  | _, _, _, .nil => .none
  | _, _, k, @RelK.cons _ _ k0 v kvs d ds h r => by
    have ih := r.get k
    by_cases e : k0 = k
    · subst e
      rw [valV_pos rfl]
      have : dget ((encK k0, d) :: ds) (encK k0) = some d := by simp [dget]
      rw [this]
      exact .some h
    · rw [valV_neg e]
      have ne : ¬ encK k0 = encK k := fun q => e (encK_inj q)
      have : dget ((encK k0, d) :: ds) (encK k) = dget ds (encK k) := by simp [dget, List.find?_cons, ne]
      rw [this]
      exact ih
theorem RelT.get : ∀ {kvs : List (List Key × V)} {ds : List (PyData × PyData)} (k : List Key), RelT K F kvs ds → ROpt K F (valV kvs k) (dget ds (encKs k))
  | _, _, _, .nil => .none
  | _, _, k, @RelT.cons _ _ k0 v kvs d ds h r => by
    have ih := r.get k
    by_cases e : k0 = k
    · subst e
      rw [valV_pos rfl]
      have : dget ((encKs k0, d) :: ds) (encKs k0) = some d := by simp [dget]
      rw [this]
      exact .some h
    · rw [valV_neg e]
      have ne : ¬ encKs k0 = encKs k := fun q => e (encKs_inj q)
      have : dget ((encKs k0, d) :: ds) (encKs k) = dget ds (encKs k) := by simp [dget, List.find?_cons, ne]
      rw [this]
      exact ih
theorem RelK.length : ∀ {kvs : List (Key × V)} {ds : List (PyData × PyData)}, RelK K F kvs ds → kvs.length = ds.length
  | _, _, .nil => rfl
  | _, _, .cons _ r => by rw [List.length_cons, List.length_cons, r.length]
theorem RelT.length : ∀ {kvs : List (List Key × V)} {ds : List (PyData × PyData)}, RelT K F kvs ds → kvs.length = ds.length
  | _, _, .nil => rfl
  | _, _, .cons _ r => by rw [List.length_cons, List.length_cons, r.length]
theorem RelK.app : ∀ {kvs ls : List (Key × V)} {ds es : List (PyData × PyData)}, RelK K F kvs ds → RelK K F ls es → RelK K F (kvs ++ ls) (ds ++ es)
  | _, _, _, _, .nil, s => s
  | _, _, _, _, .cons h r, s => .cons h (r.app s)
theorem RelT.app : ∀ {kvs ls : List (List Key × V)} {ds es : List (PyData × PyData)}, RelT K F kvs ds → RelT K F ls es → RelT K F (kvs ++ ls) (ds ++ es)
  | _, _, _, _, .nil, s => s
  | _, _, _, _, .cons h r, s => .cons h (r.app s)
theorem RelK.any : ∀ {kvs : List (Key × V)} {ds : List (PyData × PyData)} (k : Key), RelK K F kvs ds → (kvs.any fun kv => decide (kv.1 = k)) = (ds.any fun p => decide (p.1 = encK k))
  | _, _, _, .nil => rfl
  | _, _, k, @RelK.cons _ _ k0 v kvs d ds h r => by
    rw [List.any_cons, List.any_cons, r.any k]
    congr 1
    by_cases e : k0 = k
    · subst e; simp
    · have ne : ¬ encK k0 = encK k := fun q => e (encK_inj q)
      simp [e, ne]
theorem RelT.any : ∀ {kvs : List (List Key × V)} {ds : List (PyData × PyData)} (k : List Key), RelT K F kvs ds → (kvs.any fun kv => decide (kv.1 = k)) = (ds.any fun p => decide (p.1 = encKs k))
  | _, _, _, .nil => rfl
  | _, _, k, @RelT.cons _ _ k0 v kvs d ds h r => by
    rw [List.any_cons, List.any_cons, r.any k]
    congr 1
    by_cases e : k0 = k
    · subst e; simp
    · have ne : ¬ encKs k0 = encKs k := fun q => e (encKs_inj q)
      simp [e, ne]
theorem RelK.rep {v : V} {d : PyData} (hv : Rel K F v d) : ∀ {kvs : List (Key × V)} {ds : List (PyData × PyData)} (k : Key), RelK K F kvs ds → RelK K F (kvs.map fun kv => if kv.1 = k then (kv.1, v) else kv) (ds.map fun p => if p.1 = encK k then (p.1, d) else p)
  | _, _, _, .nil => .nil
  | _, _, k, @RelK.cons _ _ k0 v0 kvs d0 ds h r => by
    have ih := RelK.rep hv k r
    rw [List.map_cons, List.map_cons]
    by_cases e : k0 = k
    · subst e
      simp only [if_true]
      exact .cons hv ih
    · have ne : ¬ encK k0 = encK k := fun q => e (encK_inj q)
      simp only [e, ne, if_false]
      exact .cons h ih
theorem RelT.rep {v : V} {d : PyData} (hv : Rel K F v d) : ∀ {kvs : List (List Key × V)} {ds : List (PyData × PyData)} (k : List Key), RelT K F kvs ds → RelT K F (kvs.map fun kv => if kv.1 = k then (kv.1, v) else kv) (ds.map fun p => if p.1 = encKs k then (p.1, d) else p)
  | _, _, _, .nil => .nil
  | _, _, k, @RelT.cons _ _ k0 v0 kvs d0 ds h r => by
    have ih := RelT.rep hv k r
    rw [List.map_cons, List.map_cons]
    by_cases e : k0 = k
    · subst e
      simp only [if_true]
      exact .cons hv ih
    · have ne : ¬ encKs k0 = encKs k := fun q => e (encKs_inj q)
      simp only [e, ne, if_false]
      exact .cons h ih
theorem RelK.put {v : V} {d : PyData} (hv : Rel K F v d) {kvs : List (Key × V)} {ds : List (PyData × PyData)} (k : Key) (r : RelK K F kvs ds) : RelK K F (putK kvs k v) (dput ds (encK k) d) := by
  unfold putK dput
  rw [r.any k]
  split
  · exact r.rep hv k
  · exact r.app (.cons hv .nil)
theorem RelT.put {v : V} {d : PyData} (hv : Rel K F v d) {kvs : List (List Key × V)} {ds : List (PyData × PyData)} (k : List Key) (r : RelT K F kvs ds) : RelT K F (putK kvs k v) (dput ds (encKs k) d) := by
  unfold putK dput
  rw [r.any k]
  split
  · exact r.rep hv k
  · exact r.app (.cons hv .nil)
/-- a tuple of ints and texts, as a key -/
theorem keys_rel : ∀ {xs : List V} {ks : List Key}, RelAll K F xs (ks.map encK) → xs = ks.map kV
  | _, [], .nil => rfl
  | _, .inl i :: ks, .cons (.int _) r => by rw [List.map_cons, keys_rel r]; rfl
  | _, .inr i :: ks, .cons (.str _) r => by rw [List.map_cons, keys_rel r]; rfl
end
/-! ### an empty dict may be of either kind -/
section
variable {X : Cx} {pins : List (Addr × Obj)} {σ : L2.St} {H : Hp} {s : Shared} {a : Addr}
theorem inv_dT (I : Inv X pins σ H s) (h : H a = some (.dK [])) : Inv X pins σ (upd H a (.dT [])) s := by
  obtain ⟨z, hs, vs, r, o, es, ep, e1, e2, e3, e4, e5, _⟩ := (show ObjOk X.prog X.w H s.heap a (.dK []) from I.hok a _ h)
  cases r
  have q : es.toList = [] := by
    generalize es.toList = l at e5
    cases e5
    rfl
  exact I.write (e := a) (t' := s.toks) (h' := s.heap) (by rw [h]; trivial) (.inl rfl) (fun b u _ q => q) ⟨_, e1⟩ ⟨z, hs, [], .nil, o, es, ep, e1, e2, e3, q, List.nodup_nil⟩
theorem inv_dK (I : Inv X pins σ H s) (h : H a = some (.dT [])) : Inv X pins σ (upd H a (.dK [])) s := by
  obtain ⟨z, hs, xs, r, o, es, ep, e1, e2, e3, e4, _⟩ := (show ObjOk X.prog X.w H s.heap a (.dT []) from I.hok a _ h)
  cases r
  have q : es.toList = [] := by simpa using e4
  refine I.write (e := a) (t' := s.toks) (h' := s.heap) (by rw [h]; trivial) (.inl rfl) (fun b u _ q => q) ⟨_, e1⟩ ⟨z, hs, [], .nil, o, es, ep, e1, e2, e3, ?_, ?_, List.nodup_nil⟩
  · intro e m
    have m' : e ∈ es.toList := by simpa using m
    rw [q] at m'
    cases m'
  · rw [q]
    exact .nil
theorem upd_back {u o : HO} (h : H a = some u) : upd (upd H a o) a u = H := by
  funext b
  unfold upd
  by_cases e : b = a
  · subst e; rw [if_pos rfl, h]
  · rw [if_neg e, if_neg e]
/-- data that may be a key of a dict -/
inductive IsKey : PyData → (Key ⊕ List Key) → Prop
  | one (k : Key) : IsKey (encK k) (.inl k)
  | row (ks : List Key) : IsKey (encKs ks) (.inr ks)
def AKey (d : PyData) : Prop := ∃ k, IsKey d k
/-- every lookup in a dict, of either kind -/
theorem dget_go {F : Hp} {v y : V} {ds : List (PyData × PyData)} {d : PyData} (I : Inv X pins σ H s) (sm : Same F H) (h : RelB X.K F H v (.dict ds)) (hy : RelB X.K F H y d) (hk : AKey d)
    (same : ∀ p ∈ ds, ∀ k k', IsKey p.1 (.inl k) → IsKey d (.inr k') → False) (same2 : ∀ p ∈ ds, ∀ k k', IsKey p.1 (.inr k) → IsKey d (.inl k') → False) :
    ∃ a H2 o, v = .ref a ∧ Inv X pins σ H2 s ∧ DGet H2 a y o ∧ IsD H2 a ∧ ROpt X.K F o (dget ds d) ∧ (∀ s', Inv X pins σ H2 s' → Inv X pins σ H s') := by
  obtain ⟨a, rfl, hd⟩ := h.dict sm
  clear h
  obtain ⟨k, hk⟩ := hk
  refine ⟨a, ?_⟩
  cases hk with
  | one k =>
    have ey : y = kV k := by
      cases k with
      | inl i => exact RelB.int hy
      | inr i => exact RelB.str hy
    rcases hd with ⟨kvs, h, hz, r⟩ | ⟨kvs, h, hz, r⟩
    · exact ⟨H, _, rfl, I, .inl ⟨kvs, k, h, ey, rfl⟩, .inl ⟨kvs, h⟩, r.get k, fun _ q => q⟩
    · cases r with
      | nil =>
        have h0 := hz rfl
        refine ⟨upd H a (.dK []), none, rfl, inv_dK I h0, .inl ⟨[], k, .inl upd_same, ey, rfl⟩, .inl ⟨[], .inl upd_same⟩, .none, fun s' I' => ?_⟩
        have q := inv_dT I' (a := a) upd_same
        rw [upd_back h0] at q
        exact q
      | @cons k0 v0 kvs0 d0 ds0 h0 r0 => exact (same2 _ List.mem_cons_self k0 k (.row k0) (.one k)).elim
  | row k =>
    obtain ⟨b, xs, rfl, hb, rx⟩ := hy.tup
    have ex := keys_rel rx
    subst ex
    have hb := sm _ _ hb
    rcases hd with ⟨kvs, h, hz, r⟩ | ⟨kvs, h, hz, r⟩
    · cases r with
      | nil =>
        have h0 := hz rfl
        have nb : b ≠ a := fun e => by
          subst e
          rw [h0] at hb
          cases hb
        refine ⟨upd H a (.dT []), none, rfl, inv_dT I h0, .inr ⟨[], k, b, .inl upd_same, rfl, by rw [upd_ne nb]; exact hb, rfl⟩, .inr ⟨[], .inl upd_same⟩, .none, fun s' I' => ?_⟩
        have q := inv_dK I' (a := a) upd_same
        rw [upd_back h0] at q
        exact q
      | @cons k0 v0 kvs0 d0 ds0 h0 r0 => exact (same _ List.mem_cons_self k0 k (.one k0) (.row k)).elim
    · exact ⟨H, _, rfl, I, .inr ⟨kvs, k, b, h, rfl, hb, rfl⟩, .inr ⟨kvs, h⟩, r.get k, fun _ q => q⟩
end
/-- the keys of a dict and a further one are of one kind -/
def OneKind (ds : List (PyData × PyData)) (d : PyData) : Prop := AKey d ∧ ((∀ p ∈ ds, ∃ k, IsKey p.1 (.inl k)) ∧ (∃ k, IsKey d (.inl k)) ∨ (∀ p ∈ ds, ∃ k, IsKey p.1 (.inr k)) ∧ ∃ k, IsKey d (.inr k))
theorem IsKey.apart {d : PyData} {k : Key} {k' : List Key} (h : IsKey d (.inl k)) (h' : IsKey d (.inr k')) : False := by
  generalize e : (Sum.inl k : Key ⊕ List Key) = z at h
  generalize e' : (Sum.inr k' : Key ⊕ List Key) = z' at h'
  cases h with
  | one k0 =>
    cases k0 <;> (generalize e2 : encK _ = w at h'; cases h' with
      | one _ => cases e'
      | row ks => simp [encK, encKs] at e2)
  | row _ => cases e
theorem OneKind.s1 {ds : List (PyData × PyData)} {d : PyData} (h : OneKind ds d) : ∀ p ∈ ds, ∀ k k', IsKey p.1 (.inl k) → IsKey d (.inr k') → False := by
  intro p m k k' h1 h2
  rcases h.2 with ⟨_, k0, h3⟩ | ⟨h3, _⟩
  · exact h3.apart h2
  · obtain ⟨k1, h4⟩ := h3 p m
    exact h1.apart h4
theorem OneKind.s2 {ds : List (PyData × PyData)} {d : PyData} (h : OneKind ds d) : ∀ p ∈ ds, ∀ k k', IsKey p.1 (.inr k) → IsKey d (.inl k') → False := by
  intro p m k k' h1 h2
  rcases h.2 with ⟨h3, _⟩ | ⟨_, k0, h3⟩
  · obtain ⟨k1, h4⟩ := h3 p m
    exact h4.apart h1
  · exact h2.apart h3
/-! ### items -/
noncomputable def gSub1 : List PyData → Option Slot
  | [.list xs, .int i] => (atI xs i).map .val
  | [.tuple xs, .int i] => (atI xs i).map .val
  | [.dict ds, d] => given (OneKind ds d) ((dget ds d).map .val)
  | _ => none
theorem RelAll.atI {K : PySem.W.Frag} {F : Hp} {vs : List V} {ds : List PyData} {i : Int} {d : PyData} (r : RelAll K F vs ds) (e : L2.atI ds i = some d) : ∃ v, L2.atI vs i = some v ∧ Rel K F v d := by
  unfold L2.atI at e ⊢
  rw [r.length]
  cases h : ixN ds.length i with
  | none => rw [h] at e; cases e
  | some j =>
    rw [h] at e
    exact r.get e
section
variable {X : Cx}
theorem ix_gSub (hu : X.A.units + 200 < cLine) : IxR X (r2P X.K gSub1) := by
  intro value slice pins s σ H x y v u Q I rx ry h hs
  obtain ⟨F, ds, sl, sm, tp, r, e, w⟩ := h
  unfold gSub1 at e
  split at e
  · obtain ⟨_, _, e2, r1, r2⟩ := r.two
    cases e2
    obtain ⟨d, e3, rfl⟩ := Option.map_eq_some_iff.mp e
    obtain ⟨a, xs, rfl, h1, q1⟩ := r1.list sm
    obtain ⟨z, h2, rz⟩ := q1.atI e3
    exact ix_list value slice pins s σ H _ _ v u Q I rx ry ⟨a, xs, _, z, rfl, r2.int, h1, h2, Wants.old w sm rz⟩ hs
  · obtain ⟨_, _, e2, r1, r2⟩ := r.two
    cases e2
    obtain ⟨d, e3, rfl⟩ := Option.map_eq_some_iff.mp e
    obtain ⟨a, xs, rfl, h1, q1⟩ := r1.tup
    obtain ⟨z, h2, rz⟩ := q1.atI e3
    exact ix_tup value slice pins s σ H _ _ v u Q I rx ry ⟨a, xs, _, z, rfl, r2.int, SqT.of (sm _ _ h1), h2, Wants.old w sm rz⟩ hs
  · obtain ⟨k, e⟩ := given_some e
    obtain ⟨_, _, e2, r1, r2⟩ := r.two
    cases e2
    obtain ⟨d, e3, rfl⟩ := Option.map_eq_some_iff.mp e
    obtain ⟨a, H2, o, rfl, I2, g, _, ro, back⟩ := dget_go I sm r1 r2 k.1 k.s1 k.s2
    rw [e3] at ro
    cases ro with
    | some rz =>
      cases rx
      exact tail_any (dict_typeIs I2 g) PySem.F.slot_dict_getitem.lookup (d_getItem (by omega) I2 g ry fun w' s3 I3 rw' => ⟨_, H, back _ I3, rw', Wants.old w sm rz⟩) hs
  · cases e
end
/-! ### slices -/
def cutD (xs : List PyData) (lo hi : Option Int) : List PyData := (xs.drop (HT.sIx xs.length 0 lo)).take (HT.sIx xs.length xs.length hi - HT.sIx xs.length 0 lo)
def gCut (lo hi : Option Int) : PyData → Option Slot
  | .list xs => some (.own (.list (cutD xs lo hi)))
  | .tuple xs => some (.val (.tuple (cutD xs lo hi)))
  | _ => none
/-- one datum, two bounds -/
def rSl (K : PySem.W.Frag) : V → Option Int → Option Int → Hp → VK → Prop := fun x lo hi H Q => ∃ F d s, Same F H ∧ Tups F H ∧ RelB K F H x d ∧ gCut lo hi d = some s ∧ Wants K F H s Q
theorem RelAll.cut {K : PySem.W.Frag} {F : Hp} {vs : List V} {ds : List PyData} (r : RelAll K F vs ds) (lo hi : Option Int) : RelAll K F (cutV vs lo hi) (cutD ds lo hi) := by
  unfold cutV cutD
  rw [r.length]
  exact (r.drop _).take _
section
variable {X : Cx}
theorem sl_g : SlR X (rSl X.K) := by
  intro pins s σ H x v vl vu lo hi sl Q I rx hs pl pu h
  obtain ⟨F, d, sl', sm, tp, r, e, w⟩ := h
  unfold gCut at e
  split at e
  · cases e
    obtain ⟨a, xs, rfl, h1, q1⟩ := r.list sm
    exact sl_list pins s σ H _ v vl vu lo hi sl Q I rx hs pl pu ⟨a, xs, rfl, h1, fun p hp => Wants.lst w sm (q1.cut lo hi) hp⟩
  · cases e
    obtain ⟨a, xs, rfl, h1, q1⟩ := r.tup
    refine sl_tupA pins s σ H _ v vl vu lo hi sl Q I rx hs pl pu ⟨a, xs, rfl, SqT.of (sm _ _ h1), fun q => ?_, fun _ p hp => Wants.tup w sm (q1.cut lo hi) hp⟩
    refine Wants.old w sm (.tup h1 ?_)
    have q2 := q1.cut lo hi
    have e : cutV xs lo hi = xs := by
      unfold cutV
      rw [q.1, q.2]
      simp
    rw [e] at q2
    exact q2
  · cases e
end
end Pf
/-! PfE: membership, turned slices, collections, built-in functions. -/
namespace Pf
open L2 PyProof.Rows PySem PySem.Spec
/-! ### in -/
noncomputable def gIn : List PyData → Option Slot
  | [d, .list xs] => given (Sh d ∧ Sh (.list xs)) (some (.val (.bool (xs.any fun z => PyData.eqv z d))))
  | [d, .tuple xs] => given (Sh d ∧ Sh (.tuple xs)) (some (.val (.bool (xs.any fun z => PyData.eqv z d))))
  | [d, .dict kvs] => given (OneKind kvs d) (some (.val (.bool (dget kvs d).isSome)))
  | _ => none
noncomputable def gNotIn : List PyData → Option Slot
  | [d, .list xs] => given (Sh d ∧ Sh (.list xs)) (some (.val (.bool (!xs.any fun z => PyData.eqv z d))))
  | [d, .tuple xs] => given (Sh d ∧ Sh (.tuple xs)) (some (.val (.bool (!xs.any fun z => PyData.eqv z d))))
  | [d, .dict kvs] => given (OneKind kvs d) (some (.val (.bool (!(dget kvs d).isSome))))
  | _ => none
theorem ROpt.isSome {K : PySem.W.Frag} {F : Hp} {o : Option V} {d : Option PyData} (r : ROpt K F o d) : o.isSome = d.isSome := by cases r <;> rfl
section
variable {X : Cx}
theorem op_gIn (hu : X.A.units + 200 < cLine) : OpR X (compareOp .In) (r2P X.K gIn) := by
  intro pins s σ H x y v u Q I rx ry h
  obtain ⟨F, ds, sl, sm, tp, r, e, w⟩ := h
  unfold gIn at e
  split at e
  · obtain ⟨⟨z1, z2⟩, e⟩ := given_some e
    cases e
    obtain ⟨_, _, e, r1, r2⟩ := r.two
    cases e
    obtain ⟨as, q1⟩ := Dp.reads I _ x v ((r1.toH sm).dp z1.1) rx
    obtain ⟨bs, q2⟩ := Dp.reads I _ y u ((r2.toH sm).dp z2.1) ry
    exact SeqAt.in_list_reads q2 q1 (SeqAt.canLay_of_shaped z2.2) (SeqAt.canLay_of_shaped z1.2) (room_in_shaped z1.2 (by omega)) ⟨.bl _, H, I, rfl, Wants.old w sm (.bl _)⟩
  · obtain ⟨⟨z1, z2⟩, e⟩ := given_some e
    cases e
    obtain ⟨_, _, e, r1, r2⟩ := r.two
    cases e
    obtain ⟨as, q1⟩ := Dp.reads I _ x v ((r1.toH sm).dp z1.1) rx
    obtain ⟨bs, q2⟩ := Dp.reads I _ y u ((r2.toH sm).dp z2.1) ry
    exact SeqAt.in_tuple_reads q2 q1 (SeqAt.canLay_of_shaped z2.2) (SeqAt.canLay_of_shaped z1.2) (room_in_shaped z1.2 (by omega)) ⟨.bl _, H, I, rfl, Wants.old w sm (.bl _)⟩
  · obtain ⟨k, e⟩ := given_some e
    cases e
    obtain ⟨_, _, e, r1, r2⟩ := r.two
    cases e
    obtain ⟨a, H2, o, rfl, I2, g, _, ro, back⟩ := dget_go I sm r2 r1 k.1 k.s1 k.s2
    cases ry
    exact d_in (by omega) I2 g rx fun s3 I3 => ⟨.bl _, H, back _ I3, rfl, by rw [ro.isSome]; exact Wants.old w sm (.bl _)⟩
  · cases e
theorem op_gNotIn (hu : X.A.units + 200 < cLine) : OpR X (compareOp .NotIn) (r2P X.K gNotIn) := by
  intro pins s σ H x y v u Q I rx ry h
  obtain ⟨F, ds, sl, sm, tp, r, e, w⟩ := h
  unfold gNotIn at e
  split at e
  · obtain ⟨⟨z1, z2⟩, e⟩ := given_some e
    cases e
    obtain ⟨_, _, e, r1, r2⟩ := r.two
    cases e
    obtain ⟨as, q1⟩ := Dp.reads I _ x v ((r1.toH sm).dp z1.1) rx
    obtain ⟨bs, q2⟩ := Dp.reads I _ y u ((r2.toH sm).dp z2.1) ry
    exact SeqAt.notIn_list_reads q2 q1 (SeqAt.canLay_of_shaped z2.2) (SeqAt.canLay_of_shaped z1.2) (room_in_shaped z1.2 (by omega)) ⟨.bl _, H, I, rfl, Wants.old w sm (.bl _)⟩
  · obtain ⟨⟨z1, z2⟩, e⟩ := given_some e
    cases e
    obtain ⟨_, _, e, r1, r2⟩ := r.two
    cases e
    obtain ⟨as, q1⟩ := Dp.reads I _ x v ((r1.toH sm).dp z1.1) rx
    obtain ⟨bs, q2⟩ := Dp.reads I _ y u ((r2.toH sm).dp z2.1) ry
    exact SeqAt.notIn_tuple_reads q2 q1 (SeqAt.canLay_of_shaped z2.2) (SeqAt.canLay_of_shaped z1.2) (room_in_shaped z1.2 (by omega)) ⟨.bl _, H, I, rfl, Wants.old w sm (.bl _)⟩
  · obtain ⟨k, e⟩ := given_some e
    cases e
    obtain ⟨_, _, e, r1, r2⟩ := r.two
    cases e
    obtain ⟨a, H2, o, rfl, I2, g, _, ro, back⟩ := dget_go I sm r2 r1 k.1 k.s1 k.s2
    cases ry
    exact d_notIn (by omega) I2 g rx fun s3 I3 => ⟨.bl _, H, back _ I3, rfl, by rw [ro.isSome]; exact Wants.old w sm (.bl _)⟩
  · cases e
end
/-! ### x[::-1] -/
def gRev : PyData → Option Slot
  | .list xs => some (.own (.list xs.reverse))
  | .tuple xs => some (.val (.tuple xs.reverse))
  | _ => none
theorem adjust_rev (n : Nat) : Builtin.Slice.sliceAdjust none none (-1) (n : Int) = ((n : Int) - 1, -1) := by
  unfold Builtin.Slice.sliceAdjust
  simp
theorem places_rev (n : Nat) : Builtin.Slice.slicePlaces ((n : Int) - 1) (-1) (-1) = n := by
  unfold Builtin.Slice.slicePlaces
  have h1 : ¬ ((-1 : Int) > 0) := by decide
  simp only [h1, if_false]
  rw [show (- -1 : Int) = 1 by decide, Int.ediv_one]
  split <;> omega
theorem sliceApplied_rev {prog : Program} {w : World} {A : Around} {E : Value → Shared → Prop} {s : Shared} {sl : Addr} {vl vu vs : Value} {n : Nat} {Q : Int × Int × Nat → Shared → Prop} (hs : s.heap.IsSliceOf sl vl vu vs) (pl : IsPart vl none) (pu : IsPart vu none) (ps : IsPart vs (some (-1)))
    (h : Q ((n : Int) - 1, -1, n) s) : wpAny (model prog w) A (Builtin.Slice.sliceApplied (.ref sl) (pure (n : Int))) Q E s := by
  obtain ⟨os, hos, hcs, hds⟩ := id hs
  unfold Builtin.Slice.sliceApplied Builtin.Slice.sliceFields
  refine wpAny_bind (wpAny_bind (wpAny_field hos hds (x := vl) rfl (wpAny_bind (wpAny_field hos hds (x := vu) rfl (wpAny_bind (wpAny_field hos hds (x := vs) rfl (wpAny_pure ?_)))))))
  refine wpAny_bind (HT.slicePart_ ps ?_)
  show wpAny _ _ (if ((-1 : Int) == 0) = true then _ else _) _ _ s
  rw [if_neg (by decide)]
  refine wpAny_bind (HT.slicePart_ pl (wpAny_bind (HT.slicePart_ pu (wpAny_bind (wpAny_pure ?_)))))
  show wpAny _ _ (match Builtin.Slice.sliceAdjust none none (-1) (n : Int) with | (lo, hi) => pure (lo, (-1 : Int), Builtin.Slice.slicePlaces lo hi (-1))) _ _ s
  rw [adjust_rev n]
  show wpAny _ _ (pure ((n : Int) - 1, (-1 : Int), Builtin.Slice.slicePlaces ((n : Int) - 1) (-1) (-1))) _ _ s
  rw [places_rev]
  exact wpAny_pure h
theorem fm_congr {α β : Type} {f g : α → Option β} : ∀ {l : List α}, (∀ x ∈ l, f x = g x) → l.filterMap f = l.filterMap g
  | [], _ => rfl
  | x :: l, h => by
    rw [List.filterMap_cons, List.filterMap_cons, h x List.mem_cons_self, fm_congr fun y hy => h y (List.mem_cons_of_mem _ hy)]
theorem pick_rev (xs : List Value) : ((List.range xs.length).filterMap fun (m : Nat) => xs.toArray[((xs.length : Int) - 1 + (m : Int) * -1).toNat]?) = xs.reverse := by
  have e : ∀ m ∈ List.range xs.length, xs.toArray[((xs.length : Int) - 1 + (m : Int) * -1).toNat]? = some (xs.reverse.getD m .none) := fun m hm => by
    have hm := List.mem_range.mp hm
    have e1 : ((xs.length : Int) - 1 + (m : Int) * -1).toNat = xs.length - 1 - m := by omega
    rw [e1]
    have h2 : m < xs.reverse.length := by simpa using hm
    rw [List.getD_eq_getElem?_getD, List.getElem?_eq_getElem h2, List.getElem_reverse]
    simp only [List.getElem?_toArray, Option.getD_some]
    rw [List.getElem?_eq_getElem (by omega)]
  rw [fm_congr e]
  have : (List.range xs.length).filterMap (fun m => some (xs.reverse.getD m Value.none)) = (List.range xs.reverse.length).map (fun m => xs.reverse.getD m Value.none) := by
    rw [List.length_reverse, ← List.filterMap_eq_map]
    rfl
  rw [this]
  apply List.ext_getElem?
  intro i
  rw [List.getElem?_map]
  by_cases h : i < xs.reverse.length
  · rw [List.getElem?_eq_getElem (by simpa using h), List.getElem?_eq_getElem h]
    simp [List.getD_eq_getElem?_getD, List.getElem?_eq_getElem h]
  · rw [List.getElem?_eq_none (by simpa using h), List.getElem?_eq_none (by simpa using h)]
    rfl
theorem getItem_tuple_rev {prog : Program} {w : World} {A : Around} {E : Value → Shared → Prop} {s : Shared} {t sl : Addr} {its : List Value} {vl vu vs : Value} {Q : Value → Shared → Prop} (ht : IsTup s.heap t its.toArray) (hs : s.heap.IsSliceOf sl vl vu vs) (pl : IsPart vl none) (pu : IsPart vu none) (ps : IsPart vs (some (-1)))
    (h : Q (.ref s.heap.objs.size) { s with heap := s.heap.push { cls := .type "tuple", data := .seq its.reverse.toArray } })
    (hsz : its.length ≤ sizeLine) : wpAny (model prog w) A (getItem (.ref t) (.ref sl)) Q E s := by
  obtain ⟨os, hos, hcs, hds⟩ := id hs
  have hTs : s.TypeIs (.ref sl) "slice" := ⟨os, hos, hcs⟩
  have htake : sizeOk (.seq its.reverse.toArray) := by
    show its.reverse.toArray.size ≤ sizeLine
    rw [List.size_toArray, List.length_reverse]
    exact hsz
  unfold getItem
  try with_reducible refine wpAny_holding ?_
  first | refine wpAny_bind (wpAny_pure ?_) | skip
  refine wpAny_bind (wpAny_sequenceKey ht.typeIs (by decide) ?_)
  refine wpAny_bind (wpAny_callSpecial?_slot (name := Str.ofString "__getitem__") ht.typeIs PyProof.Rows.slot_tuple_getitem
    (wpAny_call_entry PyProof.Rows.slot_tuple_getitem ht.typeIs entry_tuple_getitem ?_ (args_tuple_getitem _ _)))
  show wpAny _ _ (Builtin.Tuple.tupleItemsOf (.ref t) >>= _) _ _ s
  refine wpAny_bind (tupleItemsOf_ ht ?_)
  refine wpAny_bind (wpAny_typeOf hTs ?_)
  rw [if_pos (by decide)]
  have hn : its.toArray.size = its.length := by simp
  refine wpAny_bind (m := Builtin.Slice.sliceApplied _ (pure ((its.toArray.size : Nat) : Int))) ?_
  rw [hn]
  refine sliceApplied_rev hs pl pu ps ?_
  show wpAny _ _ (if (((its.length : Int) - 1 == 0) && (-1 : Int) == 1 && its.length == its.toArray.size) = true then _ else _) _ _ s
  rw [if_neg (by simp), pick_rev]
  first
    | exact wpAny_bind (m := Builtin.Tuple.tupleExact _) (wpAny_newObj_type (wpAny_pure ⟨_, rfl, wpAny_pure h⟩) htake)
    | exact wpAny_bind (m := Builtin.Tuple.tupleExact _) (wpAny_newObj_type (wpAny_bind (wpAny_pure (wpAny_pure ⟨_, rfl, wpAny_pure h⟩))) htake)
    | exact wpAny_bind (wpAny_bind (m := Builtin.Tuple.tupleExact _) (wpAny_newObj_type (wpAny_pure (wpAny_pure ⟨_, rfl, wpAny_pure h⟩)) htake))
    | exact wpAny_bind (wpAny_bind (m := Builtin.Tuple.tupleExact _) (wpAny_newObj_type (wpAny_pure ⟨_, rfl, wpAny_pure h⟩) htake))
def tRev (K : PySem.W.Frag) (te : TE) : TE := fun σ H Q => te σ H fun x H1 => ∃ F d s, Same F H1 ∧ Tups F H1 ∧ RelB K F H1 x d ∧ gRev d = some s ∧ Wants K F H1 s Q
section
variable {X : Cx}
theorem pe_rev {e : Expr} {te : TE} {k : Nat} {p1 p2 p3 pos : Pos} (he : PE X e te) : PE X (.Subscript e (.Slice none none (some (.UnaryOp .USub (.Constant (.int 1) k p1) p2)) p3) pos) (tRev X.K te) := by
  refine ⟨fun pins s σ H Q I h => ?_⟩
  refine Subscript_ (thn (he.run pins s σ H _ I h) fun v s1 ⟨x, H1, I1, r1, q1⟩ => ?_)
  obtain ⟨F, d, sl, sm, tp, r, e, w⟩ := q1
  have hst : PO X (some (.UnaryOp .USub (.Constant (.int 1) k p1) p2)) (tPart (tUn (rU fun i => .int (-i)) (tC (.int 1)))) := po_some (pe_un un_neg pe_int)
  refine wpAny_Slice (thn (po_none.run pins s1 σ H1 (fun o H2 => o = none ∧ H2 = H1) I1 ⟨rfl, rfl⟩) fun vl s2 ⟨l, H2, I2, pl, el, e2⟩ => ?_)
  subst el e2
  refine thn (po_none.run pins s2 σ H2 (fun o H3 => o = none ∧ H3 = H2) I2 ⟨rfl, rfl⟩) fun vu s3 ⟨u, H3, I3, pu, eu, e3⟩ => ?_
  subst eu e3
  refine thn (hst.run pins s3 σ H3 (fun o H4 => o = some (-1) ∧ H4 = H3) I3 ⟨1, rfl, -1, rfl, rfl, rfl⟩) fun vs s4 ⟨o, H4, I4, ps, eo, e4⟩ => ?_
  subst eo e4
  have I5 : Inv X pins σ H4 { s4 with heap := s4.heap.push { cls := .type "slice", data := .fields #[vl, vu, vs] } } := I4.kept (t' := s4.toks) fun b ob q => Heap.get?_push_of_some _ q
  unfold gRev at e
  split at e
  · cases e
    obtain ⟨a, xs, rfl, hx, q1⟩ := r.list sm
    cases r1
    obtain ⟨its, rv, ht, hz⟩ := I5.list hx
    have hlen := rv.length
    show wpAny (model X.prog X.w) X.A (subscriptTail _ (.Slice none none (some (.UnaryOp .USub (.Constant (.int 1) k p1) p2)) p3) (.ref a) (.ref s4.heap.objs.size)) (EP X pins σ Q) X.xe { s4 with heap := s4.heap.push { cls := .type "slice", data := .fields #[vl, vu, vs] } }
    refine tail_any (ops := [.ref a, .ref s4.heap.objs.size]) ht.isList.typeIs (PySem.slot_list_getitem.lookup) ?_ (by with_unfolding_all rfl)
    refine wpAny_getItem_list_slice ht.isList (Heap.IsSliceOf.new _ vl vu vs) pl pu ps (by decide) ?_ (by rw [List.size_toArray]; omega)
    rw [PySem.W.krv_pick]
    refine ⟨.ref _, _, I5.laid (t' := s4.toks) (o := .lst xs.reverse) (fun b ob q => Heap.get?_push_of_some _ q) (Nat.le_refl _) ?_, rfl, Wants.lst w sm q1.reverse (I5.hok.fresh (Nat.le_refl _))⟩
    exact ⟨by rw [List.length_reverse]; exact hz, _, 0, rv.reverse, Heap.get?_push_size _ rfl⟩
  · cases e
    obtain ⟨a, xs, rfl, hx, q1⟩ := r.tup
    cases r1
    obtain ⟨its, rv, ht, hz⟩ := I5.tuple (SqT.of (sm _ _ hx))
    have hlen := rv.length
    show wpAny (model X.prog X.w) X.A (subscriptTail _ (.Slice none none (some (.UnaryOp .USub (.Constant (.int 1) k p1) p2)) p3) (.ref a) (.ref s4.heap.objs.size)) (EP X pins σ Q) X.xe { s4 with heap := s4.heap.push { cls := .type "slice", data := .fields #[vl, vu, vs] } }
    refine tail_any (ops := [.ref a, .ref s4.heap.objs.size]) ht.typeIs (PyProof.Rows.slot_tuple_getitem.lookup) ?_ (by with_unfolding_all rfl)
    refine getItem_tuple_rev ht (Heap.IsSliceOf.new _ vl vu vs) pl pu ps ?_ (by omega)
    refine ⟨.ref _, _, I5.laid (t' := s4.toks) (o := .tup xs.reverse) (fun b ob q => Heap.get?_push_of_some _ q) (Nat.le_refl _) ?_, rfl, Wants.tup w sm q1.reverse (I5.hok.fresh (Nat.le_refl _))⟩
    exact ⟨by rw [List.length_reverse]; exact hz, _, rv.reverse, IsTup.new _ _⟩
  · cases e
end
end Pf
/-! PfF: what is collected; sorted, list, tuple. -/
namespace Pf
open L2 PyProof.Rows PySem PySem.Spec
/-- what a walk over data meets -/
def iterD : PyData → Option (List PyData)
  | .list xs => some xs
  | .tuple xs => some xs
  | .dict kvs => some (kvs.map (·.1))
  | _ => none
section
variable {prog : Program} {w : World} {A : Around} {E : Value → Shared → Prop} {s : Shared}
/-- a row of a source's items -/
theorem collect_src {T : String} {r d : Addr} {n : Nat} {P : Nat → Value → Prop} {OK : Heap → Prop} {R : List Value → Shared → Prop} (K : PySem.W.KdlSrc prog w T r d n P OK) (hh : A.handled = none) (hok : OK s.heap) (hn : n ≤ sizeLine)
    (h : ∀ (h' : Heap) (tk : Nat) (acc : Array Value), (∀ b o, s.heap.get? b = some o → h'.get? b = some o) → ItemsOf P acc n → R acc.toList { s with heap := h', toks := tk }) : wpAny (model prog w) A (collect (.ref r)) R E s := by
  have lt := K.there _ hok
  unfold collect
  refine wpAny_bind (wpAny_runValue (codeAny_builtin PyProof.Rows.entry_proto_collect' ?_))
  rw [Around.under_plainId PySem.F.plain_proto_collect _]
  show wpAny _ A.in1 (newList [] >>= fun l => again (.builtin "list.__iadd__" ⟨[l, .ref r], []⟩)) _ _ s
  refine wpAny_bind (wpAny_newObj_type ?_)
  refine wpAny_pure ⟨plainId_quiet PySem.F.plain_list_iadd _, codeAny_builtin PyProof.Rows.entry_list_iadd' ?_⟩
  rw [Around.under_plainId PySem.F.plain_list_iadd _]
  have hS₁ : (s.heap.push { cls := .type "list", data := .seq ([] : List Value).toArray }).get? s.heap.objs.size = some { cls := .type "list", data := .seq #[] } := Heap.get?_push_size _ rfl
  show wpAny _ A.in1 (Builtin.List.listExtendWith (.ref s.heap.objs.size) (.ref r) (.ref s.heap.objs.size)) _ _ _
  have key := PySem.W.kdl_extend (A := A) (s := { s with heap := s.heap.push { cls := .type "list", data := .seq ([] : List Value).toArray } }) (R := fun (q : Result) (s' : Shared) => ∃ (h' : Heap) (tk : Nat) (acc' : Array Value) (c' : Nat), q = .ok (.ret (.ref s.heap.objs.size)) ∧ s' = { s with heap := h', toks := tk } ∧
      (∀ b o, s.heap.get? b = some o → h'.get? b = some o) ∧ h'.get? s.heap.objs.size = some { cls := .type "list", dict := none, data := .seq acc' c', slots := #[] } ∧ ItemsOf P acc' n)
    K hh (K.keep _ _ hok fun b _ o e => Heap.get?_push_of_some _ e) s.heap.objs.size (Nat.ne_of_gt lt.1) (Nat.ne_of_gt lt.2) (.ref s.heap.objs.size) 0 hS₁
    (fun h' tk acc' c' hk hS' it => ⟨h', tk, acc', c', rfl, rfl, fun b o e => hk b o (Nat.ne_of_lt (Heap.lt_size e)) (Heap.get?_push_of_some _ e), hS', it⟩) hn
  refine wpAny_mono key (fun fin s' x => ?_) fun e s' x => ?_
  · cases fin with
    | done f =>
      obtain ⟨h', tk, acc', c', e, rfl, hk, hS', it⟩ := x
      cases e
      show wpAny _ A (load s.heap.objs.size >>= _) _ _ _
      refine wpAny_bind (wpAny_load hS' ?_)
      refine wpAny_pure ?_
      exact h h' tk acc' hk it
    | again c₁ =>
      refine ⟨x.1, codeAny_mono x.2 fun q s₂ y => ?_⟩
      obtain ⟨h', tk, acc', c', rfl, rfl, hk, hS', it⟩ := y
      show wpAny _ A (load s.heap.objs.size >>= _) _ _ _
      refine wpAny_bind (wpAny_load hS' ?_)
      refine wpAny_pure ?_
      exact h h' tk acc' hk it
  · obtain ⟨_, _, _, _, e', _⟩ := x
    cases e'
end
theorem itemsOf_list {P : Nat → Value → Prop} {acc : Array Value} {n : Nat} (it : ItemsOf P acc n) : acc.toList.length = n ∧ ∀ j v, acc.toList[j]? = some v → P j v :=
  ⟨by rw [Array.length_toList]; exact it.1, fun j v e => it.2 j v (by rw [← Array.getElem?_toList]; exact e)⟩
section
variable {K : PySem.W.Frag} {F H : Hp}
theorem RelK.keys : ∀ {kvs : List (Key × V)} {ds : List (PyData × PyData)}, RelK K F kvs ds → RelAll K F (kvs.map fun p => kV p.1) (ds.map (·.1))
  | _, _, .nil => .nil
  | _, _, @RelK.cons _ _ k v kvs d ds h r => by
    rw [List.map_cons, List.map_cons]
    refine .cons ?_ r.keys
    cases k with
    | inl i => exact .int i
    | inr x => exact .str x
theorem RelAll.of_keys : ∀ (ks : List Key), RelAll K F (ks.map kV) (ks.map encK)
  | [] => .nil
  | .inl i :: ks => .cons (.int i) (RelAll.of_keys ks)
  | .inr x :: ks => .cons (.str x) (RelAll.of_keys ks)
theorem RelT.keys : ∀ {kvs : List (List Key × V)} {ds : List (PyData × PyData)} {bs : List Addr}, RelT K F kvs ds → IsKeys F kvs bs → RelAll K F (bs.map V.ref) (ds.map (·.1))
  | _, _, _, .nil, q => by cases q; exact .nil
  | _, _, _, @RelT.cons _ _ k v kvs d ds h r, q => by
    cases q with
    | @cons _ b _ bs h1 h2 =>
      rw [List.map_cons, List.map_cons]
      exact .cons (.tup h1 (RelAll.of_keys k)) (r.keys h2)
theorem isKeys_sub {kvs : List (List Key × V)} {bs : List Addr} (tp : Tups F H) (h : IsKeys H kvs bs) : IsKeys F kvs bs := by
  unfold IsKeys at h ⊢
  induction h with
  | nil => exact .nil
  | cons h _ ih => exact .cons (tp _ _ h) ih
end
section
variable {X : Cx} {pins : List (Addr × Obj)} {σ : L2.St} {F H : Hp} {s : Shared} {A : Around} {E : Value → Shared → Prop}
theorem vals_of_pairs {kvs : List (Key × V)} {vs : List (Key × Value)} (rel : KV kvs vs) {es : List DictEntry} (h : PySem.Pairs (mixKind X.prog X.w) es vs) : Vals (kvs.map fun p => kV p.1) (es.map (·.key)) := by
  induction h generalizing kvs with
  | nil => cases rel; exact .nil
  | cons h1 h2 _ ih =>
    cases rel with
    | cons r1 r2 =>
      rw [List.map_cons, List.map_cons]
      refine .cons ?_ (ih r2)
      rw [r1.1]
      exact relV_key h1
theorem coll_go {v : V} {u : Value} {d : PyData} {ds : List PyData} {Q : List Value → Shared → Prop} (hh : A.handled = none) (I : Inv X pins σ H s) (sm : Same F H) (tp : Tups F H) (r : RelB X.K F H v d) (ru : RelV v u) (hd : iterD d = some ds)
    (h : ∀ us xs h' tk, (∀ b o, s.heap.get? b = some o → h'.get? b = some o) → Vals xs us → RelAll X.K F xs ds → us.length ≤ sizeLine → Q us { s with heap := h', toks := tk }) : wpAny (model X.prog X.w) A (collect u) Q E s := by
  unfold iterD at hd
  split at hd
  · cases hd
    obtain ⟨a, xs, rfl, h1, q1⟩ := r.list sm
    cases ru
    obtain ⟨its, rv, ⟨o, n, ho, hc, _, hdt⟩, hz⟩ := I.list h1
    have hl := rv.length
    exact wpAny_collect_seq a (.inl rfl) ho hc hdt (fun h' k => h its xs h' s.toks k rv q1 (by omega)) (by rw [List.size_toArray]; omega)
  · cases hd
    obtain ⟨a, xs, rfl, h1, q1⟩ := r.tup
    cases ru
    obtain ⟨its, rv, ⟨o, ho, hc, n, hdt⟩, hz⟩ := I.tuple (SqT.of (sm _ _ h1))
    have hl := rv.length
    exact wpAny_collect_seq a (.inr rfl) ho hc hdt (fun h' k => h its xs h' s.toks k rv q1 (by omega)) (by rw [List.size_toArray]; omega)
  · cases hd
    obtain ⟨a, rfl, hd⟩ := r.dict sm
    cases ru
    rcases hd with ⟨kvs, hd, _, rk⟩ | ⟨kvs, hd, _, rk⟩
    · obtain ⟨z, hs, vs, rel, o, es, ep, ho, hx, hdt, ko, pr, _⟩ := dk_rd I.hok hd
      have rv := vals_of_pairs rel pr
      have hl : es.size = kvs.length := by
        have q := rv.length
        rw [List.length_map, List.length_map, Array.length_toList] at q
        exact q.symm
      have hl2 : es.size ≤ sizeLine := hl ▸ z
      refine collect_src (kdl_raw hs hx hdt) hh ho hl2 fun h' tk acc k it => ?_
      obtain ⟨i1, i2⟩ := itemsOf_list it
      have e : acc.toList = es.toList.map (·.key) := by
        apply List.ext_getElem?
        intro j
        cases hj : acc.toList[j]? with
        | none =>
          have := List.getElem?_eq_none_iff.mp hj
          rw [List.getElem?_eq_none (by rw [List.length_map, Array.length_toList]; omega)]
        | some v =>
          obtain ⟨en, h1, rfl⟩ := i2 j v hj
          rw [List.getElem?_map, Array.getElem?_toList, h1]
          rfl
      rw [e]
      exact h _ _ h' tk k rv rk.keys (by rw [List.length_map, Array.length_toList]; exact hl2)
    · obtain ⟨z, hs, ks, pr, o, es, ep, ho, hx, hdt, he, hn⟩ := (show ObjOk X.prog X.w H s.heap a (.dT kvs) from hd.ok I.hok)
      have l1 : es.size = ks.length := size_of_entries he
      have l2 : kvs.length = ks.length := Paired.length pr
      refine collect_src (kdl_raw hs hx hdt) hh ho (by omega) fun h' tk acc k it => ?_
      obtain ⟨i1, i2⟩ := itemsOf_list it
      have e : acc.toList = (ks.map fun x => x.2.1).map Value.ref := by
        apply List.ext_getElem?
        intro j
        rw [List.getElem?_map, List.getElem?_map]
        cases hj : acc.toList[j]? with
        | none =>
          have := List.getElem?_eq_none_iff.mp hj
          rw [List.getElem?_eq_none (by omega)]
          rfl
        | some v =>
          obtain ⟨en, hen, rfl⟩ := i2 j v hj
          have qe := entry_at he j
          rw [hen] at qe
          cases hb : ks[j]? with
          | none => rw [hb] at qe; cases qe
          | some b =>
            rw [hb] at qe
            have e2 : en = entryOfKey (tupleKind (mixKind X.prog X.w)) b := Option.some.inj qe
            rw [e2]
            rfl
      rw [e]
      exact h _ _ h' tk k (vals_refs _) (rk.keys (isKeys_sub tp (isKeys_of pr))) (by rw [List.length_map, List.length_map]; omega)
  · cases hd
end
mutual
theorem reads_lt {h : Heap} : ∀ {v : Value} {d : PyData} {as : List Addr}, Reads h v d as → ∀ a ∈ as, a < h.objs.size
  | _, _, _, .none, _, m => absurd m (by simp)
  | _, _, _, .bool _, _, m => absurd m (by simp)
  | _, _, _, .int _ _, _, m => absurd m (by simp)
  | _, _, _, .str _ _, _, m => absurd m (by simp)
  | _, _, _, .list h1 _ _ r, a, m => by
    rcases List.mem_cons.mp m with e | m
    · subst e; exact Heap.lt_size h1
    · exact readsAll_lt r a m
  | _, _, _, .tuple _ _ _ r, a, m => readsAll_lt r a m
  | _, _, _, .dict h1 _ _ r1 r2, a, m => by
    rcases List.mem_append.mp m with m | m
    · rcases List.mem_cons.mp m with e | m
      · subst e; exact Heap.lt_size h1
      · exact readsAll_lt r1 a m
    · exact readsAll_lt r2 a m
theorem readsAll_lt {h : Heap} : ∀ {vs : List Value} {ds : List PyData} {as : List Addr}, ReadsAll h vs ds as → ∀ a ∈ as, a < h.objs.size
  | _, _, _, .nil, _, m => absurd m (by simp)
  | _, _, _, .cons r1 r2, a, m => (List.mem_append.mp m).elim (reads_lt r1 a) (readsAll_lt r2 a)
end
/-! ### sorted -/
/-- data that can be put in order -/
def SortOk (ds : List PyData) : Prop := PySem.W.AllAlike ds ∧ PySem.W.Sortable ds ∧ ∀ d ∈ ds, Sh d
noncomputable def sortD (ds : List PyData) : List PyData := ds.mergeSort fun a b => !PySem.W.dataLt b a
noncomputable def gSorted : List PyData → Option Slot
  | [d] => (iterD d).bind fun ds => given (SortOk ds) (some (.own (.list (sortD ds))))
  | _ => none
section
variable {X : Cx} {pins : List (Addr × Obj)} {σ : L2.St} {F H : Hp} {s : Shared}
theorem each_of {xs : List V} {us : List Value} {ds : List PyData} (rv : Vals xs us) (r : RelAll X.K F xs ds) : PySem.W.EachIs (fun (u : Value) (p : V × PyData) => RelV p.1 u ∧ Rel X.K F p.1 p.2) us (xs.zip ds) := by
  induction rv generalizing ds with
  | nil => cases r; exact .nil
  | cons h _ ih =>
    cases r with
    | cons h2 r => exact .cons ⟨h, h2⟩ (ih r)
theorem each_back {us : List Value} {ps : List (V × PyData)} (e : PySem.W.EachIs (fun (u : Value) (p : V × PyData) => RelV p.1 u ∧ Rel X.K F p.1 p.2) us ps) : Vals (ps.map (·.1)) us ∧ RelAll X.K F (ps.map (·.1)) (ps.map (·.2)) := by
  induction e with
  | nil => exact ⟨.nil, .nil⟩
  | cons h _ ih => exact ⟨.cons h.1 ih.1, .cons h.2 ih.2⟩
theorem zip_snd {xs : List V} {ds : List PyData} (r : RelAll X.K F xs ds) : (xs.zip ds).map (·.2) = ds := by
  induction xs generalizing ds with
  | nil => cases r; rfl
  | cons x xs ih => cases r with | cons _ r => rw [List.zip_cons_cons, List.map_cons, ih r]
theorem sort_map (ps : List (V × PyData)) : (ps.mergeSort (PySem.W.dataLe false fun p : V × PyData => p.2)).map (·.2) = sortD (ps.map (·.2)) := by
  unfold sortD
  rw [List.map_mergeSort]
  intro a _ b _
  rfl
theorem sorted_src {u : Value} {Q : Value → Shared → Prop} {E : Value → Shared → Prop} {ds : List PyData}
    (hc : ∀ (R : List Value → Shared → Prop), (∀ us xs h' tk, (∀ b o, s.heap.get? b = some o → h'.get? b = some o) → Vals xs us → RelAll X.K F xs ds → us.length ≤ sizeLine → R us { s with heap := h', toks := tk }) → wpAny (model X.prog X.w) X.A.in1 (collect u) R E s)
    (hu : X.A.units + 200 < cLine) (I : Inv X pins σ H s) (sm : Same F H) (ok : SortOk ds)
    (h : ∀ p s', H p = none → ∀ ys, RelAll X.K F ys (sortD ds) → Inv X pins σ (upd H p (.lst ys)) s' → Q (.ref p) s') : wpAny (model X.prog X.w) X.A (call (.builtin "sorted") [u]) Q E s := by
  refine PySem.Calls.call_function_entry kind_sorted plain_sorted entry_sorted (args_sorted1 _) ?_
  unfold Builtin.«sorted»
  refine wpAny_bind (m := checkCount "sorted" 1 1 _) (wpAny_pure ?_)
  refine wpAny_bind (hc _ fun us xs h' tk k rv r hz => ?_)
  refine wpAny_bind (wpAny_newList ?_ hz)
  have hoL : (h'.push (seqObj "list" us.toArray 0)).get? h'.objs.size = some (seqObj "list" us.toArray 0) := Heap.get?_push_size _ rfl
  have I1 : Inv X pins σ H { s with heap := h', toks := tk } := I.kept k
  have hl := rv.length
  have I2 : Inv X pins σ (upd H h'.objs.size (.lst xs)) { s with heap := h'.push (seqObj "list" us.toArray 0), toks := tk } :=
    I1.laid (t' := tk) (o := .lst xs) (fun b o e => Heap.get?_push_of_some _ e) (Nat.le_refl _) ⟨by omega, us, 0, rv, hoL⟩
  have hH : H h'.objs.size = none := I1.hok.fresh (Nat.le_refl _)
  have e1 := each_of (X := X) rv r
  have sm2 : Same F (upd H h'.objs.size (.lst xs)) := sm.trans (same_upd1 hH)
  have aF : F h'.objs.size = none := same_none sm hH
  have rd : ∀ v (p : V × PyData), p ∈ xs.zip ds → (RelV p.1 v ∧ Rel X.K F p.1 p.2) → ∃ as, Reads (h'.push (seqObj "list" us.toArray 0)) v p.2 as ∧ h'.objs.size ∉ as := by
    intro v p hm hp
    have hd : p.2 ∈ ds := (List.of_mem_zip hm).2
    have sh := ok.2.2 _ hd
    obtain ⟨as, q⟩ := Dp.reads I1 p.2 p.1 v ((hp.2.mono sm).dp sh.1) hp.1
    have bound : ∀ a ∈ as, a < h'.objs.size := by
      intro a ha
      exact reads_lt q a ha
    exact ⟨as, PyProof.Rows.Reads.keeps (fun b o e => Heap.get?_push_of_some _ e) q, fun z => absurd (bound _ z) (Nat.lt_irrefl _)⟩
  have er : PySem.W.EachIs (fun v (p : V × PyData) => ∃ as, Reads (h'.push (seqObj "list" us.toArray 0)) v p.2 as ∧ h'.objs.size ∉ as) us (xs.zip ds) :=
    (PySem.W.each_mem e1).mono fun v p ⟨hp, hm⟩ => rd v p hm hp
  refine wpAny_bind (wpAny_holding (PySem.W.list_sort_data (enc := fun p : V × PyData => p.2) (bs := xs.zip ds) (s := { s with heap := h'.push (seqObj "list" us.toArray 0), toks := tk }) hoL e1 er (by rw [zip_snd r]; exact ok.1) (by rw [zip_snd r]; exact ok.2.1)
    (by rw [List.length_zip]; omega) (fun p hm => ?_) fun out hlen eo => ?_))
  · have sh := depth_of (ok.2.2 _ (List.of_mem_zip hm).2).2
    show X.A.units + 1 + 1 + p.2.depth < cLine
    omega
  · obtain ⟨b1, b2⟩ := each_back eo
    rw [sort_map, zip_snd r] at b2
    obtain ⟨ep, he'⟩ := PyProof.Rows.sortedHeap_at (vs := us) (out := out.toArray) hoL
    refine wpAny_pure ⟨_, rfl, h h'.objs.size _ hH _ b2 ?_⟩
    have hlen2 := b1.length
    have I3 := I2.write (x := h'.objs.size) (e := h'.objs.size) (o := .lst ((xs.zip ds).mergeSort (PySem.W.dataLe false fun p : V × PyData => p.2)|>.map (·.1))) (t' := tk) (h' := sortedHeap (h'.push (seqObj "list" us.toArray 0)) h'.objs.size us out.toArray)
      (by rw [upd_same]; trivial) (.inl rfl) (fun b u hb hu => by rw [PyProof.Rows.sortedHeap_old hb (Heap.lt_size hu)]; exact hu) ⟨_, he'⟩ ⟨by rw [hlen2, hlen, List.length_zip]; omega, out, ep, b1, he'⟩
    rw [upd_upd] at I3
    exact I3
theorem cr_gSorted (hc : X.calm = true) (hu : X.A.units + 200 < cLine) : CallR X (.builtin "sorted") (rP X.K gSorted) := by
  intro pins s σ H vs us Q I r h
  obtain ⟨F, ds, sl, sm, tp, rb, e, w⟩ := h
  unfold gSorted at e
  split at e
  · obtain ⟨v, rfl, r1⟩ := rb.one
    obtain ⟨u, rfl, ru⟩ := vals1 r
    obtain ⟨ds, hd, e⟩ := Option.bind_eq_some_iff.mp e
    obtain ⟨ok, e⟩ := given_some e
    cases e
    refine sorted_src (u := u) (ds := ds) (fun R hR => coll_go (show X.A.in1.handled = none from I.ok.hd hc) I sm tp r1 ru hd hR) hu I sm ok fun p s' hp ys ry I' => ?_
    exact ⟨.ref p, _, I', rfl, Wants.lst w sm ry hp⟩
  · cases e
end
end Pf
/-! PfG: further built-in functions. -/
namespace Pf
open L2 PyProof.Rows PySem PySem.Spec
noncomputable def gLen : List PyData → Option Slot
  | [.list xs] => some (.val (.int xs.length))
  | [.tuple xs] => some (.val (.int xs.length))
  | [.dict xs] => some (.val (.int xs.length))
  | [.str x] => given (Fits x.length) (some (.val (.int x.length)))
  | _ => none
def gInt : List PyData → Option Slot
  | [.int i] => some (.val (.int i))
  | [.bool b] => some (.val (.int (if b then 1 else 0)))
  | _ => none
def gAbs : List PyData → Option Slot
  | [.int i] => some (.val (.int (if i < 0 then -i else i)))
  | _ => none
noncomputable def gStr : List PyData → Option Slot
  | [.int i] => given (i.natAbs.log2 < 1920) (some (.val (.str (toString i))))
  | _ => none
def gList : List PyData → Option Slot
  | [.list xs] => some (.own (.list xs))
  | [.tuple xs] => some (.own (.list xs))
  | _ => none
def gTuple : List PyData → Option Slot
  | [.list xs] => some (.val (.tuple xs))
  | [.tuple xs] => some (.val (.tuple xs))
  | _ => none
def boolsOf : List PyData → Option (List Bool)
  | [] => some []
  | .bool b :: r => (boolsOf r).map (b :: ·)
  | _ :: _ => none
def intsOf : List PyData → Option (List Int)
  | [] => some []
  | .int b :: r => (intsOf r).map (b :: ·)
  | _ :: _ => none
theorem boolsOf_eq : ∀ {ds : List PyData} {bs : List Bool}, boolsOf ds = some bs → ds = bs.map .bool
  | [], bs, h => by cases h; rfl
  | .bool b :: r, bs, h => by
    obtain ⟨c, h1, rfl⟩ := Option.map_eq_some_iff.mp (show (boolsOf r).map (b :: ·) = some bs from h)
    rw [boolsOf_eq h1]; rfl
  | .int _ :: _, _, h => by simp [boolsOf] at h
  | .str _ :: _, _, h => by simp [boolsOf] at h
  | .none :: _, _, h => by simp [boolsOf] at h
  | .list _ :: _, _, h => by simp [boolsOf] at h
  | .tuple _ :: _, _, h => by simp [boolsOf] at h
  | .dict _ :: _, _, h => by simp [boolsOf] at h
theorem intsOf_eq : ∀ {ds : List PyData} {bs : List Int}, intsOf ds = some bs → ds = bs.map .int
  | [], bs, h => by cases h; rfl
  | .int b :: r, bs, h => by
    obtain ⟨c, h1, rfl⟩ := Option.map_eq_some_iff.mp (show (intsOf r).map (b :: ·) = some bs from h)
    rw [intsOf_eq h1]; rfl
  | .bool _ :: _, _, h => by simp [intsOf] at h
  | .str _ :: _, _, h => by simp [intsOf] at h
  | .none :: _, _, h => by simp [intsOf] at h
  | .list _ :: _, _, h => by simp [intsOf] at h
  | .tuple _ :: _, _, h => by simp [intsOf] at h
  | .dict _ :: _, _, h => by simp [intsOf] at h
theorem boolsOf_map : ∀ bs : List Bool, boolsOf (bs.map .bool) = some bs
  | [] => rfl
  | b :: r => by
    show (boolsOf (r.map .bool)).map (b :: ·) = _
    rw [boolsOf_map r]; rfl
theorem intsOf_map : ∀ bs : List Int, intsOf (bs.map .int) = some bs
  | [] => rfl
  | b :: r => by
    show (intsOf (r.map .int)).map (b :: ·) = _
    rw [intsOf_map r]; rfl
def gAll : List PyData → Option Slot
  | [.list xs] => (boolsOf xs).map fun bs => .val (.bool (bs.all id))
  | _ => none
def gAny : List PyData → Option Slot
  | [.list xs] => (boolsOf xs).map fun bs => .val (.bool (bs.any id))
  | _ => none
def gSum : List PyData → Option Slot
  | [.list xs] => (intsOf xs).map fun bs => .val (.int bs.sum)
  | _ => none
/-- the greatest, the least of ints -/
def maxI : List Int → Int
  | [] => 0
  | [a] => a
  | a :: r => max a (maxI r)
def minI : List Int → Int
  | [] => 0
  | [a] => a
  | a :: r => min a (minI r)
theorem maxI_mem : ∀ {l : List Int}, l ≠ [] → maxI l ∈ l ∧ ∀ y ∈ l, y ≤ maxI l
  | [], h => absurd rfl h
  | [a], _ => by simp [maxI]
  | a :: b :: r, _ => by
    have ih := maxI_mem (l := b :: r) (by simp)
    have e : maxI (a :: b :: r) = max a (maxI (b :: r)) := rfl
    rw [e]
    refine ⟨?_, fun y hy => ?_⟩
    · rcases Int.le_total a (maxI (b :: r)) with h | h
      · rw [Int.max_eq_right h]; exact List.mem_cons_of_mem _ ih.1
      · rw [Int.max_eq_left h]; exact List.mem_cons_self
    · rcases List.mem_cons.mp hy with h | h
      · subst h; exact Int.le_max_left _ _
      · exact Int.le_trans (ih.2 y h) (Int.le_max_right _ _)
theorem minI_mem : ∀ {l : List Int}, l ≠ [] → minI l ∈ l ∧ ∀ y ∈ l, minI l ≤ y
  | [], h => absurd rfl h
  | [a], _ => by simp [minI]
  | a :: b :: r, _ => by
    have ih := minI_mem (l := b :: r) (by simp)
    have e : minI (a :: b :: r) = min a (minI (b :: r)) := rfl
    rw [e]
    refine ⟨?_, fun y hy => ?_⟩
    · rcases Int.le_total a (minI (b :: r)) with h | h
      · rw [Int.min_eq_left h]; exact List.mem_cons_self
      · rw [Int.min_eq_right h]; exact List.mem_cons_of_mem _ ih.1
    · rcases List.mem_cons.mp hy with h | h
      · subst h; exact Int.min_le_left _ _
      · exact Int.le_trans (Int.min_le_right _ _) (ih.2 y h)
noncomputable def gMax : List PyData → Option Slot
  | [.list xs] => (intsOf xs).bind fun bs => given (bs ≠ []) (some (.val (.int (maxI bs))))
  | [.int a, .int b] => some (.val (.int (max a b)))
  | _ => none
noncomputable def gMin : List PyData → Option Slot
  | [.list xs] => (intsOf xs).bind fun bs => given (bs ≠ []) (some (.val (.int (minI bs))))
  | [.int a, .int b] => some (.val (.int (min a b)))
  | _ => none
section
variable {X : Cx}
theorem cr_gLen (hc : X.calm = true) : CallR X (.builtin "len") (rP X.K gLen) := by
  intro pins s σ H vs us Q I rv h
  obtain ⟨F, ds, sl, sm, tp, r, e, w⟩ := h
  unfold gLen at e
  split at e
  · cases e
    obtain ⟨_, rfl, r1⟩ := r.one
    obtain ⟨a, xs, rfl, h1, q1⟩ := r1.list sm
    exact call_len pins s σ H _ us Q I rv ⟨_, _, rfl, .inl ⟨xs, h1, rfl⟩, by rw [q1.length]; exact Wants.old w sm (.int _)⟩
  · cases e
    obtain ⟨_, rfl, r1⟩ := r.one
    obtain ⟨a, xs, rfl, h1, q1⟩ := r1.tup
    exact call_len pins s σ H _ us Q I rv ⟨_, _, rfl, .inr ⟨xs, SqT.of (sm _ _ h1), rfl⟩, by rw [q1.length]; exact Wants.old w sm (.int _)⟩
  · cases e
    obtain ⟨_, rfl, r1⟩ := r.one
    obtain ⟨a, rfl, hd⟩ := r1.dict sm
    obtain ⟨u, rfl, ru⟩ := vals1 rv
    cases ru
    rcases hd with ⟨kvs, hd, _, rk⟩ | ⟨kvs, hd, _, rk⟩
    · exact d_len I hd fun t s' I' => ⟨.int _, H, I', ⟨t, rfl⟩, by rw [rk.length]; exact Wants.old w sm (.int _)⟩
    · obtain ⟨z, hs, ks, pr, dd⟩ := dt_rd I.hok hd
      have l2 : kvs.length = ks.length := Paired.length pr
      have h63 := line63
      exact PySem.call_len_dictH hs dd (by omega) ⟨.int ks.length, H, I.tok _, ⟨_, rfl⟩, by rw [← l2, rk.length]; exact Wants.old w sm (.int _)⟩
  · obtain ⟨z, e⟩ := given_some e
    cases e
    obtain ⟨_, rfl, r1⟩ := r.one
    cases r1.str
    exact call_len pins s σ H _ us Q I rv ⟨_, _, rfl, ⟨z.line, rfl⟩, Wants.old w sm (.int _)⟩
  · cases e
theorem cr_gInt : CallR X (.type "int") (rP X.K gInt) := by
  refine CallR.weak call_int1 fun vs H Q h => ?_
  obtain ⟨F, ds, sl, sm, tp, r, e, w⟩ := h
  unfold gInt at e
  split at e
  · cases e
    obtain ⟨_, rfl, r1⟩ := r.one
    cases r1.int
    exact .inl ⟨_, rfl, Wants.old w sm (.int _)⟩
  · cases e
    obtain ⟨_, rfl, r1⟩ := r.one
    cases r1.bl
    exact .inr ⟨_, rfl, Wants.old w sm (.int _)⟩
  · cases e
theorem cr_gAbs : CallR X (.builtin "abs") (rP X.K gAbs) := by
  refine CallR.weak call_abs fun vs H Q h => ?_
  obtain ⟨F, ds, sl, sm, tp, r, e, w⟩ := h
  unfold gAbs at e
  split at e
  · cases e
    obtain ⟨_, rfl, r1⟩ := r.one
    cases r1.int
    exact ⟨_, rfl, Wants.old w sm (.int _)⟩
  · cases e
theorem cr_gStr : CallR X (.type "str") (rP X.K gStr) := by
  refine CallR.weak call_str_int fun vs H Q h => ?_
  obtain ⟨F, ds, sl, sm, tp, r, e, w⟩ := h
  unfold gStr at e
  split at e
  · obtain ⟨z, e⟩ := given_some e
    cases e
    obtain ⟨_, rfl, r1⟩ := r.one
    cases r1.int
    exact ⟨_, rfl, z, Wants.old w sm (.str _)⟩
  · cases e
theorem cr_gList : CallR X (.type "list") (rP X.K gList) := by
  refine CallR.weak call_list_of fun vs H Q h => ?_
  obtain ⟨F, ds, sl, sm, tp, r, e, w⟩ := h
  unfold gList at e
  split at e
  · cases e
    obtain ⟨_, rfl, r1⟩ := r.one
    obtain ⟨a, xs, rfl, h1, q1⟩ := r1.list sm
    exact ⟨a, xs, rfl, .inl h1, fun p hp => Wants.lst w sm q1 hp⟩
  · cases e
    obtain ⟨_, rfl, r1⟩ := r.one
    obtain ⟨a, xs, rfl, h1, q1⟩ := r1.tup
    exact ⟨a, xs, rfl, .inr (SqT.of (sm _ _ h1)), fun p hp => Wants.lst w sm q1 hp⟩
  · cases e
theorem cr_gTuple : CallR X (.type "tuple") (rP X.K gTuple) := by
  refine CallR.weak call_tuple_of fun vs H Q h => ?_
  obtain ⟨F, ds, sl, sm, tp, r, e, w⟩ := h
  unfold gTuple at e
  split at e
  · cases e
    obtain ⟨_, rfl, r1⟩ := r.one
    obtain ⟨a, xs, rfl, h1, q1⟩ := r1.list sm
    exact ⟨a, xs, rfl, .inl ⟨h1, fun p hp => Wants.tup w sm q1 hp⟩⟩
  · cases e
    obtain ⟨_, rfl, r1⟩ := r.one
    obtain ⟨a, xs, rfl, h1, q1⟩ := r1.tup
    exact ⟨a, xs, rfl, .inr ⟨SqT.of (sm _ _ h1), Wants.old w sm (.tup h1 q1)⟩⟩
  · cases e
theorem cr_gAll (hc : X.calm = true) : CallR X (.builtin "all") (rP X.K gAll) := by
  refine CallR.weak (cr_all hc) fun vs H Q h => ?_
  obtain ⟨F, ds, sl, sm, tp, r, e, w⟩ := h
  unfold gAll at e
  split at e
  · obtain ⟨bs, e1, rfl⟩ := Option.map_eq_some_iff.mp e
    rw [boolsOf_eq e1] at r
    obtain ⟨_, rfl, r1⟩ := r.one
    obtain ⟨a, xs, rfl, h1, q1⟩ := r1.list sm
    rw [q1.bools] at h1
    exact ⟨a, bs, rfl, h1, Wants.old w sm (.bl _)⟩
  · cases e
theorem cr_gAny (hc : X.calm = true) : CallR X (.builtin "any") (rP X.K gAny) := by
  refine CallR.weak (cr_any hc) fun vs H Q h => ?_
  obtain ⟨F, ds, sl, sm, tp, r, e, w⟩ := h
  unfold gAny at e
  split at e
  · obtain ⟨bs, e1, rfl⟩ := Option.map_eq_some_iff.mp e
    rw [boolsOf_eq e1] at r
    obtain ⟨_, rfl, r1⟩ := r.one
    obtain ⟨a, xs, rfl, h1, q1⟩ := r1.list sm
    rw [q1.bools] at h1
    exact ⟨a, bs, rfl, h1, Wants.old w sm (.bl _)⟩
  · cases e
theorem cr_gSum (hc : X.calm = true) : CallR X (.builtin "sum") (rP X.K gSum) := by
  refine CallR.weak (cr_sum hc) fun vs H Q h => ?_
  obtain ⟨F, ds, sl, sm, tp, r, e, w⟩ := h
  unfold gSum at e
  split at e
  · obtain ⟨bs, e1, rfl⟩ := Option.map_eq_some_iff.mp e
    rw [intsOf_eq e1] at r
    obtain ⟨_, rfl, r1⟩ := r.one
    obtain ⟨a, xs, rfl, h1, q1⟩ := r1.list sm
    rw [q1.ints] at h1
    exact ⟨a, bs, rfl, h1, Wants.old w sm (.int _)⟩
  · cases e
theorem cr_gMax (hc : X.calm = true) : CallR X (.builtin "max") (rP X.K gMax) := by
  refine CallR.pick fun vs H Q h => ?_
  obtain ⟨F, ds, sl, sm, tp, r, e, w⟩ := h
  unfold gMax at e
  split at e
  · obtain ⟨bs, e1, e⟩ := Option.bind_eq_some_iff.mp e
    obtain ⟨z, e⟩ := given_some e
    cases e
    rw [intsOf_eq e1] at r
    obtain ⟨_, rfl, r1⟩ := r.one
    obtain ⟨a, xs, rfl, h1, q1⟩ := r1.list sm
    rw [q1.ints] at h1
    refine ⟨_, cr_max hc, a, bs, rfl, h1, List.length_pos_iff.mpr z, fun m hm hle => ?_⟩
    obtain ⟨g1, g2⟩ := maxI_mem z
    have e : m = maxI bs := Int.le_antisymm (g2 m hm) (hle _ g1)
    rw [e]
    exact Wants.old w sm (.int _)
  · cases e
    obtain ⟨_, _, rfl, r1, r2⟩ := r.two
    cases r1.int
    cases r2.int
    refine ⟨_, call_max2 hc, _, _, rfl, ?_⟩
    rename_i i j
    have e : (if j > i then j else i) = max i j := by
      split <;> omega
    rw [e]
    exact Wants.old w sm (.int _)
  · cases e
theorem cr_gMin (hc : X.calm = true) : CallR X (.builtin "min") (rP X.K gMin) := by
  refine CallR.pick fun vs H Q h => ?_
  obtain ⟨F, ds, sl, sm, tp, r, e, w⟩ := h
  unfold gMin at e
  split at e
  · obtain ⟨bs, e1, e⟩ := Option.bind_eq_some_iff.mp e
    obtain ⟨z, e⟩ := given_some e
    cases e
    rw [intsOf_eq e1] at r
    obtain ⟨_, rfl, r1⟩ := r.one
    obtain ⟨a, xs, rfl, h1, q1⟩ := r1.list sm
    rw [q1.ints] at h1
    refine ⟨_, cr_min hc, a, bs, rfl, h1, List.length_pos_iff.mpr z, fun m hm hle => ?_⟩
    obtain ⟨g1, g2⟩ := minI_mem z
    have e : m = minI bs := Int.le_antisymm (hle _ g1) (g2 m hm)
    rw [e]
    exact Wants.old w sm (.int _)
  · cases e
    obtain ⟨_, _, rfl, r1, r2⟩ := r.two
    cases r1.int
    cases r2.int
    refine ⟨_, call_min2 hc, _, _, rfl, ?_⟩
    rename_i i j
    have e : (if j < i then j else i) = min i j := by
      split <;> omega
    rw [e]
    exact Wants.old w sm (.int _)
  · cases e
end
/-! ### isinstance -/
inductive Ty where | int | bool | str | list | tuple
  deriving DecidableEq
def Ty.name : Ty → String
  | .int => "int" | .bool => "bool" | .str => "str" | .list => "list" | .tuple => "tuple"
def isiD : PyData → Ty → Bool
  | .none, _ => false
  | .bool _, .bool => true
  | .bool _, .int => true
  | .int _, .int => true
  | .str _, .str => true
  | .list _, .list => true
  | .tuple _, .tuple => true
  | _, _ => false
def gIsi (ts : List Ty) : List PyData → Option Slot
  | [.dict _] => none
  | [d] => some (.val (.bool (ts.any (isiD d))))
  | _ => none
def tyD : PyData → String
  | .none => "NoneType" | .bool _ => "bool" | .int _ => "int" | .str _ => "str" | .list _ => "list" | .tuple _ => "tuple" | .dict _ => "dict"
theorem kits : ∀ t : Ty, kitB "NoneType" t.name = some false ∧ kitB "bool" t.name = some (t = .bool ∨ t = .int : Bool) ∧ kitB "int" t.name = some (t = .int : Bool) ∧ kitB "str" t.name = some (t = .str : Bool) ∧ kitB "list" t.name = some (t = .list : Bool) ∧ kitB "tuple" t.name = some (t = .tuple : Bool) := by
  intro t
  cases t <;> decide +kernel
theorem kit_isi {K : PySem.W.Frag} {d : PyData} (hd : ∀ kvs, d ≠ .dict kvs) (t : Ty) : PySem.W.kitOne K (.type (tyD d)) (.type t.name) = some (isiD d t) := by
  obtain ⟨h0, h1, h2, h3, h4, h5⟩ := kits t
  cases d with
  | none => exact kit_ty h0
  | bool b => exact kit_ty (by rw [show tyD (.bool b) = "bool" from rfl, h1]; cases t <;> rfl)
  | int i => exact kit_ty (by rw [show tyD (.int i) = "int" from rfl, h2]; cases t <;> rfl)
  | str x => exact kit_ty (by rw [show tyD (.str x) = "str" from rfl, h3]; cases t <;> rfl)
  | list xs => exact kit_ty (by rw [show tyD (.list xs) = "list" from rfl, h4]; cases t <;> rfl)
  | tuple xs => exact kit_ty (by rw [show tyD (.tuple xs) = "tuple" from rfl, h5]; cases t <;> rfl)
  | dict kvs => exact absurd rfl (hd kvs)
theorem ty_of {K : PySem.W.Frag} {F H : Hp} {v : V} {d : PyData} (sm : Same F H) (r : RelB K F H v d) (hd : ∀ kvs, d ≠ .dict kvs) : TyX K H v (.type (tyD d)) := by
  cases d with
  | none => rw [r.non]; exact .base .non
  | bool b => rw [r.bl]; exact .base (.bl b)
  | int i => rw [r.int]; exact .base (.int i)
  | str x => rw [r.str]; exact .base (.str x)
  | list xs =>
    obtain ⟨a, ys, rfl, h, _⟩ := r.list sm
    rcases h with (h | ⟨o, h⟩) | ⟨o, its, n, hk, hc, _⟩
    · exact .base (.lst h)
    · exact .base (.frz h)
    · exact .kList hk hc
  | tuple xs =>
    obtain ⟨a, ys, rfl, h, _⟩ := r.tup
    exact .base (.tup (sm _ _ h))
  | dict kvs => exact absurd rfl (hd kvs)
theorem kit_any {K : PySem.W.Frag} {d : PyData} (hd : ∀ kvs, d ≠ .dict kvs) : ∀ ts : List Ty, PySem.W.kitAny K (.type (tyD d)) (ts.map fun t => Value.type t.name) = some (ts.any (isiD d))
  | [] => kitAny_nil
  | t :: ts => kitAny_cons (kit_isi hd t) (fun e => by rw [kit_any hd ts, List.any_cons, e, Bool.false_or]) (fun e => by rw [List.any_cons, e, Bool.true_or])
end Pf
/-! PfH: parts of a state set aside, and joined again. -/
namespace Pf
open L2 PyProof.Rows PySem PySem.Spec
section
variable {K : PySem.W.Frag} {F F' H H' : Hp} {env env' e1 e2 : List Slot} {σ σ' s1 s2 : L2.St} {fp fp' f f1 f2 f2' : List Addr} {s s' : Slot} {o : Option V}
theorem SR.app (h1 : SR K F H e1 s1 f1) (h2 : SR K F H e2 s2 f2) : SR K F H (e1 ++ e2) (s1 ++ s2) (f1 ++ f2) := by
  induction h1 with
  | nil => exact h2
  | cons h _ ih =>
    rw [List.append_assoc]
    exact .cons h ih
theorem SR.cut : ∀ {e1 : List Slot} {s1 : L2.St} {fp : List Addr}, e1.length = s1.length → SR K F H (e1 ++ e2) (s1 ++ s2) fp → ∃ f1 f2, fp = f1 ++ f2 ∧ SR K F H e1 s1 f1 ∧ SR K F H e2 s2 f2
  | [], [], fp, _, h => ⟨[], fp, rfl, .nil, h⟩
  | [], _ :: _, _, l, _ => by simp at l
  | _ :: _, [], _, l, _ => by simp at l
  | x :: e1, y :: s1, _, l, h => by
    cases h with
    | @cons _ _ _ _ f fp h r =>
      obtain ⟨f1, f2, rfl, h1, h2⟩ := SR.cut (by simpa using l) r
      exact ⟨f ++ f1, f2, by rw [List.append_assoc], .cons h h1, h2⟩
/-- the part that is set aside -/
structure Aside (K : PySem.W.Frag) (F H : Hp) (e1 : List Slot) (s1 : L2.St) (f1 : List Addr) (f2 : List Addr) : Prop where
  rel : SR K F H e1 s1 f1
  nd : f1.Nodup
  out : ∀ a ∈ f1, F a = none
  ap : ∀ a ∈ f1, a ∉ f2
theorem Stt.cut (l : e1.length = s1.length) (t : Stt K F H (e1 ++ e2) (s1 ++ s2) fp) : ∃ f1 f2, fp = f1 ++ f2 ∧ Aside K F H e1 s1 f1 f2 ∧ Stt K F H e2 s2 f2 := by
  obtain ⟨f1, f2, rfl, h1, h2⟩ := SR.cut l t.rel
  obtain ⟨n1, n2, n3⟩ := List.nodup_append.mp t.nd
  exact ⟨f1, f2, rfl, ⟨h1, n1, fun a m => t.out a (List.mem_append_left _ m), fun a m m2 => n3 a m a m2 rfl⟩, ⟨t.sub, h2, n2, fun a m => t.out a (List.mem_append_right _ m), t.tup⟩⟩
theorem Aside.step (a : Aside K F H e1 s1 f1 f2) (st : Step F H f2 F' H' f2') (sub : Same F' H') : Aside K F' H' e1 s1 f1 f2' where
  rel := a.rel.mono st.fz fun b m => by
    obtain ⟨u, e, _⟩ := a.rel.there b m
    rw [e, st.keep b u e (a.ap b m)]
  nd := a.nd
  out := fun b m => by
    cases e : F' b with
    | none => rfl
    | some o =>
      obtain ⟨u, e2, _⟩ := a.rel.there b m
      rcases st.newF b o e with z | z | z
      · rw [a.out b m] at z; cases z
      · exact absurd z (a.ap b m)
      · rw [e2] at z; cases z
  ap := fun b m m2 => by
    obtain ⟨u, e2, _⟩ := a.rel.there b m
    rcases st.newP b m2 with z | z
    · exact a.ap b m z
    · rw [e2] at z; cases z
theorem Aside.join (a : Aside K F H e1 s1 f1 f2) (t : Stt K F H e2 s2 f2) : Stt K F H (e1 ++ e2) (s1 ++ s2) (f1 ++ f2) :=
  ⟨t.sub, a.rel.app t.rel, List.nodup_append.mpr ⟨a.nd, t.nd, fun x m y m2 e => a.ap x m (e ▸ m2)⟩, fun x m => (List.mem_append.mp m).elim (a.out x) (t.out x), t.tup⟩
theorem Step.wide (st : Step F H f2 F' H' f2') (f1 : List Addr) : Step F H (f1 ++ f2) F' H' (f1 ++ f2') :=
  ⟨st.fz, fun b o h n => st.keep b o h fun m => n (List.mem_append_right _ m), fun b o h => (st.newF b o h).imp_right fun z => z.imp_left (List.mem_append_right _),
    fun b m => (List.mem_append.mp m).elim (fun z => .inl (List.mem_append_left _ z)) fun z => (st.newP b z).imp_left (List.mem_append_right _)⟩
theorem Step.perm {g g' : List Addr} (st : Step F H fp F' H' fp') (h : g.Perm fp) (h' : g'.Perm fp') : Step F H g F' H' g' :=
  ⟨st.fz, fun b o e n => st.keep b o e fun m => n (h.mem_iff.mpr m), fun b o e => (st.newF b o e).imp_right fun z => z.imp_left h.mem_iff.mpr, fun b m => (st.newP b (h'.mem_iff.mp m)).imp_left h.mem_iff.mpr⟩
/-- a slot taken out, on top -/
theorem Stt.take {i : Nat} (t : Stt K F H env σ fp) (e : env[i]? = some s) : ∃ o fp', σ[i]? = some o ∧ fp'.Perm fp ∧ Stt K F H (s :: env.set i .no) (o :: σ) fp' := by
  obtain ⟨o, f, fa, fb, h1, h2, h3, h4⟩ := t.rel.at_ e
  have q := h4 (F' := F) (H' := H) (s' := .no) (o' := o) (f' := []) (Same.refl _) (fun _ _ => rfl) .no
  rw [SR.set_o t.rel h1 rfl] at q
  have pm : (f ++ (fa ++ [] ++ fb)).Perm fp := by
    rw [h3, List.append_nil, List.append_assoc]
    exact List.perm_append_comm_assoc _ _ _
  exact ⟨o, f ++ (fa ++ [] ++ fb), h1, pm, ⟨t.sub, .cons h2 q, pm.nodup_iff.mpr t.nd, fun a m => t.out a (pm.mem_iff.mp m), t.tup⟩⟩
/-- the top slot put at a place that holds nothing -/
theorem Stt.put {i : Nat} {o' : Option V} (t : Stt K F H (s :: env) (o :: σ) fp) (e : env[i]? = some .no) (eo : σ[i]? = some o' ∧ (o' = o ∨ s = .no)) : ∃ fp', fp'.Perm fp ∧ Stt K F H (env.set i s) σ fp' := by
  obtain ⟨sub, rel, nd, out, tp⟩ := t
  cases rel with
  | @cons _ _ _ _ f fp1 h r =>
    obtain ⟨o2, f2, fa, fb, h1, h2, h3, h4⟩ := r.at_ e
    cases h2
    have hs : SlotR K F H s o' f := by
      rcases eo.2 with z | z
      · rw [z]; exact h
      · subst z; cases h; exact .no
    have q := h4 (F' := F) (H' := H) (s' := s) (o' := o') (f' := f) (Same.refl _) (fun _ _ => rfl) hs
    rw [SR.set_o r eo.1 rfl] at q
    have pm : (fa ++ f ++ fb).Perm (f ++ fp1) := by
      rw [h3, List.append_nil, List.append_assoc]
      exact List.perm_append_comm_assoc _ _ _
    exact ⟨_, pm, ⟨sub, q, pm.nodup_iff.mpr nd, fun a m => out a (pm.mem_iff.mp m), tp⟩⟩
theorem Stt.drop (t : Stt K F H (s :: env) (o :: σ) fp) : ∃ fp', Step F H fp F H fp' ∧ Stt K F H env σ fp' := by
  obtain ⟨sub, rel, nd, out, tp⟩ := t
  cases rel with
  | @cons _ _ _ _ f fp1 h r =>
    exact ⟨fp1, ⟨Same.refl _, fun _ _ h _ => h, fun _ _ h => .inl h, fun b m => .inl (List.mem_append_right _ m)⟩, ⟨sub, r, (List.nodup_append.mp nd).2.1, fun a m => out a (List.mem_append_right _ m), tp⟩⟩
/-- a slot forgotten -/
theorem Stt.clear {i : Nat} (t : Stt K F H env σ fp) : ∃ fp', Step F H fp F H fp' ∧ Stt K F H (env.set i .no) σ fp' := by
  cases e : env[i]? with
  | none =>
    have : env.set i .no = env := List.set_eq_of_length_le (List.getElem?_eq_none_iff.mp e)
    rw [this]
    exact ⟨fp, Step.refl, t⟩
  | some s =>
    obtain ⟨o, fp', _, pm, t'⟩ := t.take e
    obtain ⟨fp2, st, t2⟩ := t'.drop
    exact ⟨fp2, (Step.refl (F := F) (H := H) (fp := fp)).trans (st.perm pm.symm (List.Perm.refl _)), t2⟩
/-- the slot's V may be any where nothing is known -/
theorem Stt.setNo {i : Nat} {o' : Option V} (t : Stt K F H env σ fp) (e : env[i]? = some .no) : Stt K F H env (σ.set i o') fp := by
  obtain ⟨o2, f2, fa, fb, h1, h2, h3, h4⟩ := t.rel.at_ e
  cases h2
  have q := h4 (F' := F) (H' := H) (s' := .no) (o' := o') (f' := []) (Same.refl _) (fun _ _ => rfl) .no
  have es : env.set i .no = env := by
    obtain ⟨hi, e⟩ := List.getElem?_eq_some_iff.mp e
    rw [← e]
    exact List.set_getElem_self hi
  rw [es] at q
  exact ⟨t.sub, by rw [h3]; exact q, t.nd, t.out, t.tup⟩
/-- the top value stored at a place: what stood there is forgotten -/
theorem Stt.store {i : Nat} {v : V} (t : Stt K F H (s :: env) (some v :: σ) fp) (hi : i < env.length) : ∃ fp', Step F H fp F H fp' ∧ Stt K F H (env.set i s) (σ.set i (some v)) fp' := by
  obtain ⟨fp1, st1, t1⟩ := t.clear (i := i + 1)
  have t1 : Stt K F H (s :: env.set i .no) (some v :: σ) fp1 := t1
  have hl := t.len
  have e0 : (env.set i .no)[i]? = some .no := by rw [List.getElem?_set_self hi]
  have t2 : Stt K F H (s :: env.set i .no) (some v :: σ.set i (some v)) fp1 := by
    have q := t1.setNo (i := i + 1) (o' := some v) (by simpa using e0)
    simpa using q
  have hi2 : i < σ.length := by
    simp at hl
    omega
  obtain ⟨fp2, pm, t3⟩ := t2.put e0 (o' := some v) ⟨by rw [List.getElem?_set_self hi2], .inl rfl⟩
  rw [List.set_set] at t3
  exact ⟨fp2, st1.perm (List.Perm.refl _) pm, t3⟩
end
end Pf
/-! PfI: readings of expressions and statements, by evaluators. -/
namespace L2
open PySem
theorem PE.weak {X : Cx} {e : Expr} {t t' : TE} (h : PE X e t) (i : ∀ σ H Q, t' σ H Q → t σ H Q) : PE X e t' := Pf.PE.weak h i
theorem PT.weak {X : Cx} {e : Expr} {t t' : TT} (h : PT X e t) (i : ∀ σ H Q, t' σ H Q → t σ H Q) : PT X e t' := Pf.PT.weak h i
theorem PA.weak {X : Cx} {es : List Expr} {t t' : TA} (h : PA X es t) (i : ∀ σ H Q, t' σ H Q → t σ H Q) : PA X es t' := Pf.PA.weak h i
theorem PS.weak {X : Cx} {st : Stmt} {t t' : TS} (h : PS X st t) (i : ∀ D σ H, t' D σ H → t D σ H) : PS X st t' := Pf.PS.weak h i
theorem PSs.weak {X : Cx} {st : List Stmt} {t t' : TS} (h : PSs X st t) (i : ∀ D σ H, t' D σ H → t D σ H) : PSs X st t' := Pf.PSs.weak h i
theorem PW.weak {X : Cx} {a : Expr} {t t' : TT} (h : PW X a t) (i : ∀ σ H Q, t' σ H Q → t σ H Q) : PW X a t' := ⟨fun whole pins s σ H Q I w => h.run whole pins s σ H Q I (i _ _ _ w)⟩
end L2
namespace Pf
open L2 PyProof.Rows PySem PySem.Spec
abbrev EvV := Env1 → Option (Slot × Env1)
abbrev EvO := Env1 → Option (Opd × Env1)
abbrev EvOs := Env1 → Option (List Opd × Env1)
abbrev EvB := Env1 → Option (Bool × Env1)
inductive Fl where
  | nx (e : Env1) | rt (s : Slot) (e : Env1) | bk (e : Env1) | ct (e : Env1)
abbrev EvS := Env1 → Option Fl
/-! ### operands -/
def known : Slot → Bool
  | .no => false
  | _ => true
def oN (i : Nat) : EvO := fun env => (env[i]?).bind fun s => if known s then some (.nam i, env) else none
def oC (d : PyData) : EvO := fun env => some (.dat d, env)
section
variable {X : Cx} {e a b c : Expr} {pos : Pos}
theorem known_at {K : PySem.W.Frag} {F H : Hp} {s : Slot} {o : Option V} {f : List Addr} (h : SlotR K F H s o f) (k : known s = true) : ∃ v, o = some v := by
  cases h with
  | no => cases k
  | val _ => exact ⟨_, rfl⟩
  | own _ => exact ⟨_, rfl⟩
  | deal _ _ => exact ⟨_, rfl⟩
theorem po_name {i : Nat} (h : PE X e (tVar i)) : PE X e (tO X.K (oN i)) := by
  refine h.weak fun σ H Q h => ?_
  obtain ⟨F, env, fp, o, env', t, e1, q⟩ := h
  unfold oN at e1
  cases e2 : env[i]? with
  | none => rw [e2] at e1; cases e1
  | some s =>
    rw [e2] at e1
    have e1 : (if known s then some (Opd.nam i, env) else none) = some (o, env') := e1
    split at e1
    · rename_i k
      cases e1
      obtain ⟨o', f, h1, h2, _⟩ := t.rel.slot e2
      obtain ⟨v, rfl⟩ := known_at h2 k
      exact ⟨v, h1, q F H fp v Step.refl t h1⟩
    · cases e1
theorem po_con {v : V} {d : PyData} (h : PE X e (tC v)) (r : ∀ F, Rel X.K F v d) : PE X e (tO X.K (oC d)) := by
  refine h.weak fun σ H Q h => ?_
  obtain ⟨F, env, fp, o, env', t, e1, q⟩ := h
  cases e1
  exact q F H fp v Step.refl t (r F)
theorem po_int {i j pos} : PE X (.Constant (.int i) j pos) (tO X.K (oC (.int i))) := po_con pe_int fun _ => .int i
theorem po_bl {i j pos} : PE X (.Constant (.bool i) j pos) (tO X.K (oC (.bool i))) := po_con pe_bl fun _ => .bl i
theorem po_str {i j pos} : PE X (.Constant (.str i) j pos) (tO X.K (oC (.str i))) := po_con pe_str fun _ => .str i
theorem po_non {j pos} : PE X (.Constant .none j pos) (tO X.K (oC .none)) := po_con pe_non fun _ => .non
theorem po_val {r : EvV} (h : PE X e (tV X.K r)) : PE X e (tO X.K (asO r)) := h.weak fun _ _ _ => asO_imp
/-! ### values -/
/-- an operand as a value: frozen -/
def vO (r : EvO) : EvV := fun env => (r env).bind fun p => (frzO p.2 p.1).bind fun q => some (.val q.1, q.2)
theorem pv_opd {r : EvO} (h : PE X e (tO X.K r)) : PE X e (tV X.K (vO r)) := by
  refine h.weak fun σ H Q h => ?_
  obtain ⟨F, env, fp, s, env', t, e1, q⟩ := h
  unfold vO at e1
  cases e2 : r env with
  | none => rw [e2] at e1; cases e1
  | some p =>
    obtain ⟨o, env1⟩ := p
    rw [e2] at e1
    cases e3 : frzO env1 o with
    | none => simp [e3] at e1
    | some p3 =>
      obtain ⟨d, env3⟩ := p3
      simp [e3] at e1
      obtain ⟨rfl, rfl⟩ := e1
      refine ⟨F, env, fp, o, env1, t, e2, fun F1 H1 fp1 v s1 t1 o1 => ?_⟩
      obtain ⟨F2, fp2, s2, t2, r2⟩ := frzO_go t1 o1 e3
      exact q F2 H1 fp2 v (s1.trans s2) (t2.pushV r2)
/-- a name's content, moved -/
def vMv (i : Nat) : EvV := fun env => (env[i]?).bind fun s => if known s then some (s, env.set i .no) else none
theorem pv_move {i : Nat} (h : PE X e (tVar i)) : PE X e (tV X.K (vMv i)) := by
  refine h.weak fun σ H Q h => ?_
  obtain ⟨F, env, fp, s, env', t, e1, q⟩ := h
  unfold vMv at e1
  cases e2 : env[i]? with
  | none => rw [e2] at e1; cases e1
  | some s0 =>
    rw [e2] at e1
    have e1 : (if known s0 then some (s0, env.set i .no) else none) = some (s, env') := e1
    split at e1
    · rename_i k
      cases e1
      obtain ⟨o', fp', h1, pm, t'⟩ := t.take e2
      have : ∃ v, o' = some v := by
        obtain ⟨o2, f, g1, g2, _⟩ := t.rel.slot e2
        rw [h1] at g1; cases g1
        exact known_at g2 k
      obtain ⟨v, rfl⟩ := this
      exact ⟨v, h1, q F H fp' v (Step.refl.perm (List.Perm.refl _) pm) t'⟩
    · cases e1
/-- tuple and list displays -/
noncomputable def vTup (rs : EvOs) : EvV := fun env => (rs env).bind fun p => (frzOs p.2 p.1).bind fun q => (given (Fits q.1.length) (some (.val (.tuple q.1)))).bind fun s => some (s, q.2)
noncomputable def vLst (rs : EvOs) : EvV := fun env => (rs env).bind fun p => (frzOs p.2 p.1).bind fun q => (given (Fits q.1.length) (some (.own (.list q.1)))).bind fun s => some (s, q.2)
theorem pv_tup {es : List Expr} {x1} {rs : EvOs} (h : PA X es (tOs X.K rs)) : PE X (.Tuple es x1 pos) (tV X.K (vTup rs)) := by
  refine (pe_tup h).weak fun σ H Q h => ?_
  obtain ⟨F, env, fp, s, env', t, e1, q⟩ := h
  unfold vTup at e1
  cases e2 : rs env with
  | none => rw [e2] at e1; cases e1
  | some p =>
    obtain ⟨os, env1⟩ := p
    rw [e2] at e1
    cases e3 : frzOs env1 os with
    | none => simp [e3] at e1
    | some p3 =>
      obtain ⟨ds, env3⟩ := p3
      simp only [e3, Option.bind_some] at e1
      cases e4 : given (Fits ds.length) (some (.val (.tuple ds))) with
      | none => rw [e4] at e1; cases e1
      | some s' =>
        rw [e4] at e1
        obtain ⟨z, e4⟩ := given_some e4
        cases e4
        cases e1
        refine ⟨F, env, fp, os, env1, t, e2, fun F1 H1 fp1 vs s1 t1 o1 => ?_⟩
        obtain ⟨F2, fp2, s2, t2, r2⟩ := frzOs_go t1 o1 e3
        refine ⟨by rw [r2.length]; exact z.line, fun p hp => ?_⟩
        obtain ⟨t3, s3⟩ := t2.pushN (f := []) (New.shut (u := .tup vs) t2.sub hp) (.val (.tup upd_same (r2.mono (same_upd1 (same_none t2.sub hp))))) List.nodup_nil (by simp)
        exact q _ _ _ (.ref p) ((s1.trans s2).trans s3) t3
theorem pv_lst {es : List Expr} {rs : EvOs} (h : PA X es (tOs X.K rs)) : PE X (.List es pos) (tV X.K (vLst rs)) := by
  refine (pe_lst h).weak fun σ H Q h => ?_
  obtain ⟨F, env, fp, s, env', t, e1, q⟩ := h
  unfold vLst at e1
  cases e2 : rs env with
  | none => rw [e2] at e1; cases e1
  | some p =>
    obtain ⟨os, env1⟩ := p
    rw [e2] at e1
    cases e3 : frzOs env1 os with
    | none => simp [e3] at e1
    | some p3 =>
      obtain ⟨ds, env3⟩ := p3
      simp only [e3, Option.bind_some] at e1
      cases e4 : given (Fits ds.length) (some (.own (.list ds))) with
      | none => rw [e4] at e1; cases e1
      | some s' =>
        rw [e4] at e1
        obtain ⟨z, e4⟩ := given_some e4
        cases e4
        cases e1
        refine ⟨F, env, fp, os, env1, t, e2, fun F1 H1 fp1 vs s1 t1 o1 => ?_⟩
        obtain ⟨F2, fp2, s2, t2, r2⟩ := frzOs_go t1 o1 e3
        refine ⟨by rw [r2.length]; exact z.line, fun p hp => ?_⟩
        obtain ⟨t3, s3⟩ := t2.pushN (f := [p]) (New.open_ (u := .lst vs) t2.sub hp (fun _ z => nomatch z)) (s := .own (.list ds)) (.own (d := .list ds) ⟨vs, upd_same, r2⟩) (by simp) (fun a m => (List.mem_singleton.mp m) ▸ ⟨hp, same_none t2.sub hp⟩)
        exact q _ _ _ (.ref p) ((s1.trans s2).trans s3) t3
/-- {} -/
def vDic : EvV := fun env => some (.own (.dict []), env)
theorem pv_dic : PE X (.Dict [] [] pos) (tV X.K vDic) := by
  refine (pe_dnewK).weak fun σ H Q h => ?_
  obtain ⟨F, env, fp, s, env', t, e1, q⟩ := h
  cases e1
  intro p hp
  obtain ⟨t3, s3⟩ := t.pushN (f := [p]) (New.open_ (u := .dK []) t.sub hp (fun _ z => nomatch z)) (s := .own (.dict [])) (.own (d := .dict []) (.inl ⟨[], upd_same, .nil⟩)) (by simp) (fun a m => (List.mem_singleton.mp m) ▸ ⟨hp, same_none t.sub hp⟩)
  exact q _ _ _ (.ref p) s3 t3
/-! ### rows -/
theorem ps_nil : PA X [] (tOs X.K nilO) := pa_nil.weak fun _ _ _ => nilO_imp
theorem ps_cons {es : List Expr} {r : EvO} {rs : EvOs} (ha : PE X e (tO X.K r)) (hr : PA X es (tOs X.K rs)) (hs : starEach (e :: es) X.env = (false, eval e X.env) :: starEach es X.env := by rfl) : PA X (e :: es) (tOs X.K (consO r rs)) :=
  (pa_cons ha hr hs).weak fun _ _ _ => consO_imp
/-! ### primitives -/
theorem two_imp {K : PySem.W.Frag} {g : List PyData → Option Slot} {r r' : EvO} {σ : L2.St} {H : Hp} {Q : VK} (h : tV K (evP g (consO r (consO r' nilO))) σ H Q) : tO K r σ H fun x H1 => tO K r' σ H1 fun y H2 => rP K g [x, y] H2 Q := by
  have h := consO_imp (evP_imp h)
  obtain ⟨F, env, fp, o, env', t, e1, q⟩ := h
  refine ⟨F, env, fp, o, env', t, e1, fun F' H' fp' v st t' ho => ?_⟩
  obtain ⟨F2, env2, fp2, o2, env3, t2, e2, q2⟩ := consO_imp (q F' H' fp' v st t' ho)
  refine ⟨F2, env2, fp2, o2, env3, t2, e2, fun F3 H3 fp3 u st3 t3 ho3 => ?_⟩
  exact nilO_imp (q2 F3 H3 fp3 u st3 t3 ho3)
theorem one_imp {K : PySem.W.Frag} {g : List PyData → Option Slot} {r : EvO} {σ : L2.St} {H : Hp} {Q : VK} (h : tV K (evP g (consO r nilO)) σ H Q) : tO K r σ H fun x H1 => rP K g [x] H1 Q := by
  have h := consO_imp (evP_imp h)
  obtain ⟨F, env, fp, o, env', t, e1, q⟩ := h
  exact ⟨F, env, fp, o, env', t, e1, fun F' H' fp' v st t' ho => nilO_imp (q F' H' fp' v st t' ho)⟩
/-- two operands, one operand -/
abbrev ev2 (g : List PyData → Option Slot) (r r' : EvO) : EvV := evP g (consO r (consO r' nilO))
abbrev ev1 (g : List PyData → Option Slot) (r : EvO) : EvV := evP g (consO r nilO)
theorem pv_op {op : Operator} {g : List PyData → Option Slot} {r r' : EvO} (ho : OpR X (binaryOp op) (r2P X.K g)) (ha : PE X a (tO X.K r)) (hb : PE X b (tO X.K r')) : PE X (.BinOp a op b pos) (tV X.K (ev2 g r r')) :=
  (pe_op ho ha hb).weak fun _ _ _ => two_imp
theorem pv_un {op : UnaryOp} {g : List PyData → Option Slot} {r : EvO} (ho : UnR X (unaryOp op) (fun x H Q => rP X.K g [x] H Q)) (ha : PE X a (tO X.K r)) : PE X (.UnaryOp op a pos) (tV X.K (ev1 g r)) :=
  (pe_un ho ha).weak fun _ _ _ => one_imp
theorem pv_cmp {op : CmpOp} {g : List PyData → Option Slot} {r r' : EvO} (ho : OpR X (compareOp op) (r2P X.K g)) (ha : PE X a (tO X.K r)) (hb : PE X b (tO X.K r')) (hm : behindInMarks op b = false := by first | exact nobehind _ (by decide) (by decide) | rfl) :
    PE X (.Compare a [op] [b] pos) (tV X.K (ev2 g r r')) := (pe_cmpR ho ha hb hm).weak fun _ _ _ => two_imp
theorem pv_ix {g : List PyData → Option Slot} {r r' : EvO} (ho : IxR X (r2P X.K g)) (ha : PE X a (tO X.K r)) (hb : PE X b (tO X.K r')) (hs : PlainIx b := by first | exact fun _ _ => rfl) : PE X (.Subscript a b pos) (tV X.K (ev2 g r r')) :=
  (pe_ix ho ha hb hs).weak fun _ _ _ => two_imp
theorem pv_callB {g : List PyData → Option Slot} {rs : EvOs} {x : Str} {p : Pos} {es : List Expr} {id : String} (hc : CallR X (.builtin id) (rP X.K g)) (hg : Gl X x) (hm : X.mg x = none) (hv : bootBuiltins x = some (.builtin id)) (ha : PA X (e :: es) (tOs X.K rs)) (hn : x ≠ "__name__" := by decide) (hdb : (x == ("__debug__" : Str)) = false := by decide)
    (he : starEach (e :: es) X.env = (false, eval e X.env) :: starEach es X.env := by rfl) (hpl : (backTo pos (starEach es X.env)).any (·.1) = false := by rfl) : PE X (.Call (.Name x p) (e :: es) [] pos) (tV X.K (evP g rs)) :=
  (pe_callB hc hg hm hv ha hn hdb he hpl).weak fun _ _ _ => evP_imp
theorem pv_callTy {g : List PyData → Option Slot} {rs : EvOs} {x : Str} {p : Pos} {es : List Expr} {T : String} (hc : CallR X (.type T) (rP X.K g)) (hg : Gl X x) (hm : X.mg x = none) (hv : bootBuiltins x = some (.type T)) (ha : PA X (e :: es) (tOs X.K rs)) (hn : x ≠ "__name__" := by decide) (hdb : (x == ("__debug__" : Str)) = false := by decide)
    (he : starEach (e :: es) X.env = (false, eval e X.env) :: starEach es X.env := by rfl) (hpl : (backTo pos (starEach es X.env)).any (·.1) = false := by rfl) : PE X (.Call (.Name x p) (e :: es) [] pos) (tV X.K (evP g rs)) :=
  (pe_callTy hc hg hm hv ha hn hdb he hpl).weak fun _ _ _ => evP_imp
/-! ### truth -/
/-- a value that is a bool -/
def asB : Slot → Option Bool
  | .val (.bool c) => some c
  | _ => none
def bV (r : EvV) : EvB := fun env => (r env).bind fun p => (asB p.1).bind fun c => some (c, p.2)
theorem asB_some {s : Slot} {c : Bool} (h : asB s = some c) : s = .val (.bool c) := by
  unfold asB at h
  split at h
  · cases h; rfl
  · cases h
theorem bV_imp {K : PySem.W.Frag} {r : EvV} {σ : L2.St} {H : Hp} {Q : Bool → Hp → Prop} (h : tB' K (bV r) σ H Q) : tB (tV K r) σ H Q := by
  obtain ⟨F, env, fp, b, env', t, e1, q⟩ := h
  unfold bV at e1
  cases e2 : r env with
  | none => rw [e2] at e1; cases e1
  | some p =>
    obtain ⟨s, env1⟩ := p
    rw [e2] at e1
    cases e3 : asB s with
    | none => simp [e3] at e1
    | some c =>
      simp [e3] at e1
      obtain ⟨rfl, rfl⟩ := e1
      cases asB_some e3
      refine ⟨F, env, fp, _, env1, t, e2, fun F1 H1 fp1 v s1 t1 => ?_⟩
      obtain ⟨sub, rel, nd, out, tp⟩ := t1
      cases rel with
      | cons h r =>
        cases h with
        | val h =>
          cases h
          exact ⟨_, rfl, q F1 H1 _ s1 ⟨sub, r, nd, out, tp⟩⟩
theorem pt_bv {r : EvV} (h : PE X e (tV X.K r)) (he : ∀ whole, isTrue e X.env whole = (do let v ← whole; standAt e.pos; holding [v] (truthy v)) := by intro _; rfl) : PT X e (tB' X.K (bV r)) :=
  (pt_val h he).weak fun _ _ _ => bV_imp
theorem pt_cmp' {op : CmpOp} {g : List PyData → Option Slot} {r r' : EvO} (ho : OpR X (compareOp op) (r2P X.K g)) (ha : PE X a (tO X.K r)) (hb : PE X b (tO X.K r')) (hm : behindInMarks op b = false := by first | exact nobehind _ (by decide) (by decide) | rfl) :
    PT X (.Compare a [op] [b] pos) (tB' X.K (bV (ev2 g r r'))) := (pt_cmpR ho ha hb hm).weak fun σ H Q h => by
  have h := bV_imp h
  obtain ⟨F, env, fp, s, env', t, e1, q⟩ := (h : tV X.K _ σ H _)
  exact two_imp ⟨F, env, fp, s, env', t, e1, q⟩
def bNot (r : EvB) : EvB := fun env => (r env).bind fun p => some (!p.1, p.2)
def bAnd (r r' : EvB) : EvB := fun env => (r env).bind fun p => if p.1 then r' p.2 else some (false, p.2)
def bOr (r r' : EvB) : EvB := fun env => (r env).bind fun p => if p.1 then some (true, p.2) else r' p.2
theorem bNot_imp {K : PySem.W.Frag} {r : EvB} {σ : L2.St} {H : Hp} {Q : Bool → Hp → Prop} (h : tB' K (bNot r) σ H Q) : tNot (tB' K r) σ H Q := by
  obtain ⟨F, env, fp, b, env', t, e1, q⟩ := h
  unfold bNot at e1
  cases e2 : r env with
  | none => rw [e2] at e1; cases e1
  | some p =>
    rw [e2] at e1
    cases e1
    exact ⟨F, env, fp, p.1, p.2, t, e2, fun F1 H1 fp1 s1 t1 => q F1 H1 fp1 s1 t1⟩
theorem bAnd_imp {K : PySem.W.Frag} {r r' : EvB} {σ : L2.St} {H : Hp} {Q : Bool → Hp → Prop} (h : tB' K (bAnd r r') σ H Q) : tAnd (tB' K r) (tB' K r') σ H Q := by
  obtain ⟨F, env, fp, b, env', t, e1, q⟩ := h
  unfold bAnd at e1
  cases e2 : r env with
  | none => rw [e2] at e1; cases e1
  | some p =>
    obtain ⟨c, env1⟩ := p
    rw [e2] at e1
    refine ⟨F, env, fp, c, env1, t, e2, fun F1 H1 fp1 s1 t1 => ?_⟩
    have e1 : (if c then r' env1 else some (false, env1)) = some (b, env') := e1
    split at e1
    · rename_i hc
      show if c = true then _ else _
      rw [if_pos hc]
      exact ⟨F1, env1, fp1, b, env', t1, e1, fun F2 H2 fp2 s2 t2 => q F2 H2 fp2 (s1.trans s2) t2⟩
    · rename_i hc
      cases e1
      show if c = true then _ else _
      rw [if_neg hc]
      exact q F1 H1 fp1 s1 t1
theorem bOr_imp {K : PySem.W.Frag} {r r' : EvB} {σ : L2.St} {H : Hp} {Q : Bool → Hp → Prop} (h : tB' K (bOr r r') σ H Q) : tOr (tB' K r) (tB' K r') σ H Q := by
  obtain ⟨F, env, fp, b, env', t, e1, q⟩ := h
  unfold bOr at e1
  cases e2 : r env with
  | none => rw [e2] at e1; cases e1
  | some p =>
    obtain ⟨c, env1⟩ := p
    rw [e2] at e1
    refine ⟨F, env, fp, c, env1, t, e2, fun F1 H1 fp1 s1 t1 => ?_⟩
    have e1 : (if c then some (true, env1) else r' env1) = some (b, env') := e1
    split at e1
    · rename_i hc
      cases e1
      show if c = true then _ else _
      rw [if_pos hc]
      exact q F1 H1 fp1 s1 t1
    · rename_i hc
      show if c = true then _ else _
      rw [if_neg hc]
      exact ⟨F1, env1, fp1, b, env', t1, e1, fun F2 H2 fp2 s2 t2 => q F2 H2 fp2 (s1.trans s2) t2⟩
theorem pw_and2 {rest : List Expr} {r r' : EvB} (ha : PT X a (tB' X.K r)) (hb : PW X (.BoolOp .And (b :: rest) pos) (tB' X.K r')) : PW X (.BoolOp .And (a :: b :: rest) pos) (tB' X.K (bAnd r r')) := (pw_and ha hb).weak fun _ _ _ => bAnd_imp
theorem pw_or2 {rest : List Expr} {r r' : EvB} (ha : PT X a (tB' X.K r)) (hb : PW X (.BoolOp .Or (b :: rest) pos) (tB' X.K r')) : PW X (.BoolOp .Or (a :: b :: rest) pos) (tB' X.K (bOr r r')) := (pw_or ha hb).weak fun _ _ _ => bOr_imp
theorem pt_not' {r : EvB} (ha : PT X a (tB' X.K r)) : PT X (.UnaryOp .Not a pos) (tB' X.K (bNot r)) := (pt_not ha).weak fun _ _ _ => bNot_imp
/-! and, or, not as values: of bools -/
def vB (r : EvB) : EvV := fun env => (r env).bind fun p => some (.val (.bool p.1), p.2)
theorem vB_imp {K : PySem.W.Frag} {r : EvB} {σ : L2.St} {H : Hp} {Q : VK} (h : tV K (vB r) σ H Q) : tB' K r σ H fun b H1 => Q (.bl b) H1 := by
  obtain ⟨F, env, fp, s, env', t, e1, q⟩ := h
  unfold vB at e1
  cases e2 : r env with
  | none => rw [e2] at e1; cases e1
  | some p =>
    rw [e2] at e1
    cases e1
    exact ⟨F, env, fp, p.1, p.2, t, e2, fun F1 H1 fp1 s1 t1 => q F1 H1 fp1 _ s1 (t1.pushV (.bl _))⟩
theorem pv_not {r : EvV} (ha : PE X a (tV X.K r)) : PE X (.UnaryOp .Not a pos) (tV X.K (vB (bNot (bV r)))) := (pe_not ha).weak fun σ H Q h => by
  have h1 := bV_imp (bNot_imp (vB_imp h))
  exact h1
theorem pv_and {rest : List Expr} {r r' : EvV} (ha : PE X a (tV X.K r)) (hb : PE X (.BoolOp .And (b :: rest) pos) (tV X.K r')) : PE X (.BoolOp .And (a :: b :: rest) pos) (tV X.K (vB (bAnd (bV r) (bV r')))) := (pe_and ha hb).weak fun σ H Q h => by
  have h1 := bV_imp (bAnd_imp (vB_imp h))
  obtain ⟨F, env, fp, s, env', t, e1, q⟩ := (h1 : tV X.K _ σ H _)
  refine ⟨F, env, fp, s, env', t, e1, fun F1 H1 fp1 v s1 t1 => ?_⟩
  obtain ⟨c, rfl, q⟩ := q F1 H1 fp1 v s1 t1
  refine ⟨c, rfl, ?_⟩
  cases c with
  | true =>
    rw [if_pos rfl] at q ⊢
    obtain ⟨F, env, fp, s, env', t, e1, q⟩ := (bV_imp q : tV X.K _ σ _ _)
    refine ⟨F, env, fp, s, env', t, e1, fun F1 H1 fp1 v s1 t1 => ?_⟩
    obtain ⟨c, rfl, q⟩ := q F1 H1 fp1 v s1 t1
    exact q
  | false =>
    rw [if_neg Bool.false_ne_true] at q ⊢
    exact q
theorem pv_or {rest : List Expr} {r r' : EvV} (ha : PE X a (tV X.K r)) (hb : PE X (.BoolOp .Or (b :: rest) pos) (tV X.K r')) : PE X (.BoolOp .Or (a :: b :: rest) pos) (tV X.K (vB (bOr (bV r) (bV r')))) := (pe_or ha hb).weak fun σ H Q h => by
  have h1 := bV_imp (bOr_imp (vB_imp h))
  obtain ⟨F, env, fp, s, env', t, e1, q⟩ := (h1 : tV X.K _ σ H _)
  refine ⟨F, env, fp, s, env', t, e1, fun F1 H1 fp1 v s1 t1 => ?_⟩
  obtain ⟨c, rfl, q⟩ := q F1 H1 fp1 v s1 t1
  refine ⟨c, rfl, ?_⟩
  cases c with
  | false =>
    rw [if_neg Bool.false_ne_true] at q ⊢
    obtain ⟨F, env, fp, s, env', t, e1, q⟩ := (bV_imp q : tV X.K _ σ _ _)
    refine ⟨F, env, fp, s, env', t, e1, fun F1 H1 fp1 v s1 t1 => ?_⟩
    obtain ⟨c, rfl, q⟩ := q F1 H1 fp1 v s1 t1
    exact q
  | true =>
    rw [if_pos rfl] at q ⊢
    exact q
def vIte (rc : EvB) (r r' : EvV) : EvV := fun env => (rc env).bind fun p => if p.1 then r p.2 else r' p.2
theorem pv_ite {rc : EvB} {r r' : EvV} (hc : PT X c (tB' X.K rc)) (ha : PE X a (tV X.K r)) (hb : PE X b (tV X.K r')) : PE X (.IfExp c a b pos) (tV X.K (vIte rc r r')) := (pe_ifExp hc ha hb).weak fun σ H Q h => by
  obtain ⟨F, env, fp, s, env', t, e1, q⟩ := h
  unfold vIte at e1
  cases e2 : rc env with
  | none => rw [e2] at e1; cases e1
  | some p =>
    obtain ⟨k, env1⟩ := p
    rw [e2] at e1
    refine ⟨F, env, fp, k, env1, t, e2, fun F1 H1 fp1 s1 t1 => ?_⟩
    have e1 : (if k then r env1 else r' env1) = some (s, env') := e1
    split at e1
    · rename_i hk
      show if k = true then _ else _
      rw [if_pos hk]
      exact ⟨F1, env1, fp1, s, env', t1, e1, fun F2 H2 fp2 v s2 t2 => q F2 H2 fp2 v (s1.trans s2) t2⟩
    · rename_i hk
      show if k = true then _ else _
      rw [if_neg hk]
      exact ⟨F1, env1, fp1, s, env', t1, e1, fun F2 H2 fp2 v s2 t2 => q F2 H2 fp2 v (s1.trans s2) t2⟩
end
end Pf
/-! PfJ: statements, targets. -/
namespace Pf
open L2 PyProof.Rows PySem PySem.Spec
/-- the slots that pn names are as they were -/
def Pin (pn : Nat → Bool) (σ σ' : L2.St) : Prop := σ'.length = σ.length ∧ ∀ i, pn i = true → σ'[i]? = σ[i]?
theorem Pin.refl {pn : Nat → Bool} {σ : L2.St} : Pin pn σ σ := ⟨rfl, fun _ _ => rfl⟩
theorem Pin.trans {pn : Nat → Bool} {σ σ' σ'' : L2.St} (a : Pin pn σ σ') (b : Pin pn σ' σ'') : Pin pn σ σ'' := ⟨b.1.trans a.1, fun i h => (b.2 i h).trans (a.2 i h)⟩
theorem Pin.set {pn : Nat → Bool} {σ : L2.St} {i : Nat} {o : Option V} (h : pn i = false) : Pin pn σ (σ.set i o) := ⟨List.length_set, fun j hj => by
  have : i ≠ j := fun e => by rw [e, hj] at h; cases h
  rw [List.getElem?_set_ne this]⟩
def flW (K : PySem.W.Frag) (pn : Nat → Bool) (F H : Hp) (fp : List Addr) (σ : L2.St) (D : Ends) : Fl → Prop
  | .nx e => ∀ σ' F' H' fp', Pin pn σ σ' → Step F H fp F' H' fp' → Stt K F' H' e σ' fp' → D.nx σ' H'
  | .bk e => ∀ σ' F' H' fp', Pin pn σ σ' → Step F H fp F' H' fp' → Stt K F' H' e σ' fp' → D.bk σ' H'
  | .ct e => ∀ σ' F' H' fp', Pin pn σ σ' → Step F H fp F' H' fp' → Stt K F' H' e σ' fp' → D.ct σ' H'
  | .rt s e => ∀ σ' F' H' fp' v, Pin pn σ σ' → Step F H fp F' H' fp' → Stt K F' H' (s :: e) (some v :: σ') fp' → D.rt v H'
def tS (K : PySem.W.Frag) (pn : Nat → Bool) (r : EvS) : TS := fun D σ H => ∃ F env fp fl, Stt K F H env σ fp ∧ r env = some fl ∧ flW K pn F H fp σ D fl
section
variable {K : PySem.W.Frag} {pn : Nat → Bool} {F H F' H' : Hp} {fp fp' : List Addr} {σ σ' : L2.St} {D D' : Ends} {fl : Fl}
theorem flW.back (p : Pin pn σ σ') (st : Step F H fp F' H' fp') (h : flW K pn F H fp σ D fl) : flW K pn F' H' fp' σ' D fl := by
  cases fl with
  | nx e => exact fun σ2 F2 H2 fp2 p2 st2 t2 => h σ2 F2 H2 fp2 (p.trans p2) (st.trans st2) t2
  | bk e => exact fun σ2 F2 H2 fp2 p2 st2 t2 => h σ2 F2 H2 fp2 (p.trans p2) (st.trans st2) t2
  | ct e => exact fun σ2 F2 H2 fp2 p2 st2 t2 => h σ2 F2 H2 fp2 (p.trans p2) (st.trans st2) t2
  | rt s e => exact fun σ2 F2 H2 fp2 v p2 st2 t2 => h σ2 F2 H2 fp2 v (p.trans p2) (st.trans st2) t2
end
/-- one after another -/
def andThen (r : EvS) : Option Fl → Option Fl
  | some (.nx e) => r e
  | some (.rt s e) => some (.rt s e)
  | some (.bk e) => some (.bk e)
  | some (.ct e) => some (.ct e)
  | none => none
def sSeq (r r' : EvS) : EvS := fun env => andThen r' (r env)
def sNext : EvS := fun env => some (.nx env)
def sBreak : EvS := fun env => some (.bk env)
def sCont : EvS := fun env => some (.ct env)
section
variable {X : Cx} {pn : Nat → Bool} {st : Stmt} {rest : List Stmt} {pos : Pos} {e : Expr}
theorem ss_nil : PSs X [] (tS X.K pn sNext) := pss_nil.weak fun D σ H h => by
  obtain ⟨F, env, fp, fl, t, e1, w⟩ := h
  cases e1
  exact w σ F H fp Pin.refl Step.refl t
theorem sSeq_imp {r r' : EvS} {D : Ends} {σ : L2.St} {H : Hp} (h : tS X.K pn (sSeq r r') D σ H) : tSeq (tS X.K pn r) (tS X.K pn r') D σ H := by
  obtain ⟨F, env, fp, fl, t, e1, w⟩ := h
  unfold sSeq at e1
  cases e2 : r env with
  | none => rw [e2] at e1; cases e1
  | some f =>
    rw [e2] at e1
    cases f with
    | nx e =>
      have e1 : r' e = some fl := e1
      exact ⟨F, env, fp, _, t, e2, fun σ' F' H' fp' p st t' => ⟨F', e, fp', fl, t', e1, w.back p st⟩⟩
    | rt s e => cases e1; exact ⟨F, env, fp, _, t, e2, w⟩
    | bk e => cases e1; exact ⟨F, env, fp, _, t, e2, w⟩
    | ct e => cases e1; exact ⟨F, env, fp, _, t, e2, w⟩
theorem ss_cons {r r' : EvS} (h1 : PS X st (tS X.K pn r)) (h2 : PSs X rest (tS X.K pn r')) : PSs X (st :: rest) (tS X.K pn (sSeq r r')) := (pss_cons h1 h2).weak fun _ _ _ => sSeq_imp
theorem ss_one {r : EvS} (h1 : PS X st (tS X.K pn r)) : PSs X [st] (tS X.K pn r) := pss_one h1
theorem sp_pass : PS X (.Pass pos) (tS X.K pn sNext) := ps_pass.weak fun D σ H h => by
  obtain ⟨F, env, fp, fl, t, e1, w⟩ := h
  cases e1
  exact w σ F H fp Pin.refl Step.refl t
theorem sp_break : PS X (.Break pos) (tS X.K pn sBreak) := ps_break.weak fun D σ H h => by
  obtain ⟨F, env, fp, fl, t, e1, w⟩ := h
  cases e1
  exact w σ F H fp Pin.refl Step.refl t
theorem sp_cont : PS X (.Continue pos) (tS X.K pn sCont) := ps_continue.weak fun D σ H h => by
  obtain ⟨F, env, fp, fl, t, e1, w⟩ := h
  cases e1
  exact w σ F H fp Pin.refl Step.refl t
/-- dropped -/
def sDrop (r : EvV) : EvS := fun env => (r env).bind fun p => some (.nx p.2)
theorem sp_expr {r : EvV} (he : PE X e (tV X.K r)) (hs : swapsWith e none pos.line X.env = pure false := by rfl) : PS X (.Expr e pos) (tS X.K pn (sDrop r)) := (ps_expr he hs).weak fun D σ H h => by
  obtain ⟨F, env, fp, fl, t, e1, w⟩ := h
  unfold sDrop at e1
  cases e2 : r env with
  | none => rw [e2] at e1; cases e1
  | some p =>
    rw [e2] at e1
    cases e1
    refine ⟨F, env, fp, p.1, p.2, t, e2, fun F1 H1 fp1 v s1 t1 => ?_⟩
    obtain ⟨fp2, s2, t2⟩ := t1.drop
    exact w σ F1 H1 fp2 Pin.refl (s1.trans s2) t2
def sRet (r : EvV) : EvS := fun env => (r env).bind fun p => some (.rt p.1 p.2)
theorem sp_ret {r : EvV} (he : PE X e (tV X.K r)) : PS X (.Return (some e) pos) (tS X.K pn (sRet r)) := (ps_ret he).weak fun D σ H h => by
  obtain ⟨F, env, fp, fl, t, e1, w⟩ := h
  unfold sRet at e1
  cases e2 : r env with
  | none => rw [e2] at e1; cases e1
  | some p =>
    rw [e2] at e1
    cases e1
    exact ⟨F, env, fp, p.1, p.2, t, e2, fun F1 H1 fp1 v s1 t1 => w σ F1 H1 fp1 v Pin.refl s1 t1⟩
def sRetN : EvS := fun env => some (.rt (.val .none) env)
theorem sp_retN : PS X (.Return none pos) (tS X.K pn sRetN) := ps_retN.weak fun D σ H h => by
  obtain ⟨F, env, fp, fl, t, e1, w⟩ := h
  cases e1
  exact w σ F H fp .non Pin.refl Step.refl (t.pushV .non)
def sIf (c : EvB) (r r' : EvS) : EvS := fun env => (c env).bind fun p => if p.1 then r p.2 else r' p.2
theorem sp_if {c : Expr} {a b : List Stmt} {rc : EvB} {r r' : EvS} (hc : PT X c (tB' X.K rc)) (ha : PSs X a (tS X.K pn r)) (hb : PSs X b (tS X.K pn r')) : PS X (.If c a b pos) (tS X.K pn (sIf rc r r')) := (ps_if hc ha hb).weak fun D σ H h => by
  obtain ⟨F, env, fp, fl, t, e1, w⟩ := h
  unfold sIf at e1
  cases e2 : rc env with
  | none => rw [e2] at e1; cases e1
  | some p =>
    obtain ⟨k, env1⟩ := p
    rw [e2] at e1
    refine ⟨F, env, fp, k, env1, t, e2, fun F1 H1 fp1 s1 t1 => ?_⟩
    have e1 : (if k then r env1 else r' env1) = some fl := e1
    split at e1
    · rename_i hk
      show if k = true then _ else _
      rw [if_pos hk]
      exact ⟨F1, env1, fp1, fl, t1, e1, w.back Pin.refl s1⟩
    · rename_i hk
      show if k = true then _ else _
      rw [if_neg hk]
      exact ⟨F1, env1, fp1, fl, t1, e1, w.back Pin.refl s1⟩
/-- name = value -/
def sSet (i : Nat) (r : EvV) : EvS := fun env => (r env).bind fun p => if i < p.2.length then some (.nx (p.2.set i p.1)) else none
theorem sSet_imp {i : Nat} {r : EvV} {D : Ends} {σ : L2.St} {H : Hp} (hp : pn i = false) (h : tS X.K pn (sSet i r) D σ H) : tAsg (tV X.K r) (gName i) D σ H := by
  obtain ⟨F, env, fp, fl, t, e1, w⟩ := h
  unfold sSet at e1
  cases e2 : r env with
  | none => rw [e2] at e1; cases e1
  | some p =>
    obtain ⟨s, env1⟩ := p
    rw [e2] at e1
    have e1 : (if i < env1.length then some (Fl.nx (env1.set i s)) else none) = some fl := e1
    split at e1
    · rename_i hi
      cases e1
      refine ⟨F, env, fp, s, env1, t, e2, fun F1 H1 fp1 v s1 t1 => ?_⟩
      obtain ⟨fp2, s2, t2⟩ := t1.store hi
      exact w _ F1 H1 fp2 (Pin.set hp) (s1.trans s2) t2
    · cases e1
theorem sp_set {i : Nat} {x : Str} {r : EvV} {pos' : Pos} (hN : X.N.Nodup) (hi : X.N[i]? = some x) (hx : Loc X.env.scope x) (he : PE X e (tV X.K r)) (hp : pn i = false := by rfl) (hs : swapsWith e (some (.Name x pos')) pos.line X.env = pure false := by rfl) (hf : X.fn x = true ∨ X.env.scope.names.lookup x = some .local := by first | exact .inl rfl | exact .inr rfl | assumption) :
    PS X (.Assign [.Name x pos'] e pos) (tS X.K pn (sSet i r)) := (ps_set hN hi hx he hs hf).weak fun _ _ _ => sSet_imp hp
/-! ### targets -/
abbrev EvG := PyData → Env1 → Option Env1
abbrev EvGs := List PyData → Env1 → Option Env1
def tG (K : PySem.W.Frag) (pn : Nat → Bool) (g : EvG) : TG := fun v σ H Q => ∃ F env fp d env', Stt K F H env σ fp ∧ Rel K F v d ∧ g d env = some env' ∧ ∀ σ' fp', Pin pn σ σ' → Step F H fp F H fp' → Stt K F H env' σ' fp' → Q σ' H
def tGs (K : PySem.W.Frag) (pn : Nat → Bool) (g : EvGs) : TGs := fun vs σ H Q => ∃ F env fp ds env', Stt K F H env σ fp ∧ RelAll K F vs ds ∧ g ds env = some env' ∧ ∀ σ' fp', Pin pn σ σ' → Step F H fp F H fp' → Stt K F H env' σ' fp' → Q σ' H
theorem L2PG.weak {tg : Expr} {t t' : TG} (h : PG X tg t) (i : ∀ v σ H Q, t' v σ H Q → t v σ H Q) : PG X tg t' := ⟨fun pins s σ H v u Q I r w => h.run pins s σ H v u Q I r (i _ _ _ _ w)⟩
theorem L2PGs.weak {tg : List Expr} {t t' : TGs} (h : PGs X tg t) (i : ∀ v σ H Q, t' v σ H Q → t v σ H Q) : PGs X tg t' := ⟨fun pins s σ H v u Q I r w => h.run pins s σ H v u Q I r (i _ _ _ _ w)⟩
def gN (i : Nat) : EvG := fun d env => if i < env.length then some (env.set i (.val d)) else none
def gNils : EvGs := fun ds env => match ds with
  | [] => some env
  | _ => none
def gConss (g : EvG) (gs : EvGs) : EvGs := fun ds env => match ds with
  | d :: ds => (g d env).bind fun e => gs ds e
  | _ => none
def gT (n : Nat) (gs : EvGs) : EvG := fun d env => match d with
  | .tuple ds => if ds.length = n then gs ds env else none
  | _ => none
theorem tg_name {i : Nat} {x : Str} (hN : X.N.Nodup) (hi : X.N[i]? = some x) (hx : Loc X.env.scope x) (hp : pn i = false := by rfl) (hf : X.fn x = true ∨ X.env.scope.names.lookup x = some .local := by first | exact .inl rfl | exact .inr rfl | assumption) : PG X (.Name x pos) (tG X.K pn (gN i)) :=
  L2PG.weak (pg_name hN hi hx hf) fun v σ H Q h => by
    obtain ⟨F, env, fp, d, env', t, rd, e1, q⟩ := h
    unfold gN at e1
    split at e1
    · rename_i hl
      cases e1
      obtain ⟨fp2, s2, t2⟩ := (t.pushV rd).store hl
      exact q _ fp2 (Pin.set hp) s2 t2
    · cases e1
theorem tg_nil : PGs X [] (tGs X.K pn gNils) := L2PGs.weak pgs_nil fun vs σ H Q h => by
  obtain ⟨F, env, fp, ds, env', t, rd, e1, q⟩ := h
  unfold gNils at e1
  split at e1
  · cases e1
    cases rd
    exact ⟨rfl, q σ fp Pin.refl Step.refl t⟩
  · cases e1
theorem tg_cons {es : List Expr} {g : EvG} {gs : EvGs} (h1 : PG X e (tG X.K pn g)) (h2 : PGs X es (tGs X.K pn gs)) (hs : (assignEach (e :: es) X.env).map (·.2) = assign e X.env :: (assignEach es X.env).map (·.2) := by rfl) : PGs X (e :: es) (tGs X.K pn (gConss g gs)) :=
  L2PGs.weak (pgs_cons h1 h2 hs) fun vs σ H Q h => by
    obtain ⟨F, env, fp, ds, env', t, rd, e1, q⟩ := h
    unfold gConss at e1
    split at e1
    · rename_i d ds
      cases rd with
      | cons r1 rr =>
        cases e2 : g d env with
        | none => rw [e2] at e1; cases e1
        | some env1 =>
          rw [e2] at e1
          refine ⟨_, _, rfl, F, env, fp, d, env1, t, r1, e2, fun σ' fp' p st t' => ?_⟩
          exact ⟨F, env1, fp', ds, env', t', rr, e1, fun σ2 fp2 p2 st2 t2 => q σ2 fp2 (p.trans p2) (st.trans st2) t2⟩
    · cases e1
theorem tg_tup {es : List Expr} {k : Nat} {gs : EvGs} {n : Nat} (hc : X.calm = true) (h : PGs X es (tGs X.K pn gs)) (hn : (assignEach es X.env).length = n := by rfl) (hst : (assignEach es X.env).findIdx? (·.1) = none := by rfl) : PG X (.Tuple es k pos) (tG X.K pn (gT n gs)) :=
  L2PG.weak (pg_tup hc h hn hst) fun v σ H Q h => by
    obtain ⟨F, env, fp, d, env', t, rd, e1, q⟩ := h
    unfold gT at e1
    split at e1
    · rename_i ds
      split at e1
      · rename_i hl
        cases rd with
        | tup h r => exact ⟨_, _, rfl, SqT.of (t.sub _ _ h), r.length.trans hl, F, env, fp, ds, env', t, r, e1, q⟩
      · cases e1
    · cases e1
/-- target = value, unpacked -/
def sUnp (g : EvG) (r : EvV) : EvS := fun env => (r env).bind fun p => p.1.dat.bind fun d => (g d p.2).bind fun e => some (.nx e)
theorem sUnp_imp {g : EvG} {r : EvV} {D : Ends} {σ : L2.St} {H : Hp} (h : tS X.K pn (sUnp g r) D σ H) : tAsg (tV X.K r) (tG X.K pn g) D σ H := by
  obtain ⟨F, env, fp, fl, t, e1, w⟩ := h
  unfold sUnp at e1
  cases e2 : r env with
  | none => rw [e2] at e1; cases e1
  | some p =>
    obtain ⟨s, env1⟩ := p
    rw [e2] at e1
    cases e3 : s.dat with
    | none => simp [e3] at e1
    | some d =>
      cases e4 : g d env1 with
      | none => simp [e3, e4] at e1
      | some env2 =>
        simp [e3, e4] at e1
        cases e1
        refine ⟨F, env, fp, s, env1, t, e2, fun F1 H1 fp1 v s1 t1 => ?_⟩
        obtain ⟨F2, fp2, s2, t2, r2⟩ := t1.freezeTop e3
        exact ⟨F2, env1, fp2, d, env2, t2, r2, e4, fun σ' fp' p st t' => w σ' F2 H1 fp' p ((s1.trans s2).trans st) t'⟩
theorem sp_unp {tg : Expr} {g : EvG} {r : EvV} (he : PE X e (tV X.K r)) (hg : PG X tg (tG X.K pn g)) (hs : swapsWithSole [tg] e pos.line X.env = pure false := by rfl) (hw : swappedStores [tg] e X.env = pure none := by rfl)
    (h1 : (assignEach [tg] X.env).map (·.2) = [assign tg X.env] := by rfl) : PS X (.Assign [tg] e pos) (tS X.K pn (sUnp g r)) := (ps_asg he hg hs hw h1).weak fun _ _ _ => sUnp_imp
/-- a, b = x, y -/
def sPar (i j : Nat) (r r' : EvV) : EvS := fun env => (r env).bind fun p => (r' p.2).bind fun q => if i < q.2.length ∧ j < q.2.length then some (.nx ((q.2.set i p.1).set j q.1)) else none
theorem sPar_imp {i j : Nat} {r r' : EvV} {D : Ends} {σ : L2.St} {H : Hp} (hp : pn i = false) (hq : pn j = false) (h : tS X.K pn (sPar i j r r') D σ H) : tPar i j (tCons (tV X.K r) (tCons (tV X.K r') tNil)) D σ H := by
  obtain ⟨F, env, fp, fl, t, e1, w⟩ := h
  unfold sPar at e1
  cases e2 : r env with
  | none => rw [e2] at e1; cases e1
  | some p =>
    obtain ⟨s, env1⟩ := p
    rw [e2] at e1
    cases e3 : r' env1 with
    | none => simp [e3] at e1
    | some p3 =>
      obtain ⟨s', env2⟩ := p3
      simp only [e3, Option.bind_some] at e1
      split at e1
      · rename_i hl
        cases e1
        refine ⟨F, env, fp, s, env1, t, e2, fun F1 H1 fp1 v s1 t1 => ?_⟩
        obtain ⟨f1, f2, rfl, as, t1'⟩ := Stt.cut (e1 := [s]) (s1 := [some v]) rfl t1
        refine ⟨F1, env1, f2, s', env2, t1', e3, fun F2 H2 fp2 u s2 t2 => ?_⟩
        -- the first value is laid below the second
        have t2d := Stt.cut (e1 := [s']) (s1 := [some u]) rfl t2
        obtain ⟨g1, g2, rfl, as2, t2'⟩ := t2d
        have as' := as.step s2 t2.sub
        have as3 : Aside X.K F2 H2 [s] [some v] f1 g2 := ⟨as'.rel, as'.nd, as'.out, fun a m n => as'.ap a m (List.mem_append_right _ n)⟩
        have t3 := as3.join t2'
        have t3 : Stt X.K F2 H2 (s :: env2) (some v :: σ) (f1 ++ g2) := t3
        obtain ⟨fpx, sx, tx⟩ := t3.store hl.1
        have as4 : Aside X.K F2 H2 [s'] [some u] g1 fpx := ⟨as2.rel, as2.nd, as2.out, fun a m n => by
          rcases sx.newP a n with z | z
          · rcases List.mem_append.mp z with z | z
            · exact as'.ap a z (List.mem_append_left _ m)
            · exact as2.ap a m z
          · obtain ⟨uu, e, _⟩ := as2.rel.there a m
            rw [z] at e; cases e⟩
        have t4 : Stt X.K F2 H2 (s' :: env2.set i s) (some u :: σ.set i (some v)) (g1 ++ fpx) := as4.join tx
        obtain ⟨fpy, sy, ty⟩ := t4.store (i := j) (by rw [List.length_set]; exact hl.2)
        refine ⟨v, u, rfl, w _ F2 H2 fpy ((Pin.set hp).trans (Pin.set hq)) ?_ ty⟩
        have sA : Step F1 H1 (f1 ++ f2) F2 H2 (f1 ++ (g1 ++ g2)) := s2.wide f1
        have sB : Step F2 H2 (g1 ++ (f1 ++ g2)) F2 H2 (g1 ++ fpx) := sx.wide g1
        have pm : (g1 ++ (f1 ++ g2)).Perm (f1 ++ (g1 ++ g2)) := List.perm_append_comm_assoc _ _ _
        exact (s1.trans (sA.perm (List.Perm.refl _) pm)).trans (sB.trans sy)
      · cases e1
theorem sp_par {i j : Nat} {x y : Str} {a b : Expr} {r r' : EvV} {px py pt : Pos} {kt k2 pt2} (hc : X.calm = true) (hN : X.N.Nodup) (hi : X.N[i]? = some x) (hj : X.N[j]? = some y) (hij : i ≠ j)
    (hx : X.env.scope.names.lookup x = some .local) (hy : X.env.scope.names.lookup y = some .local) (ha : PE X a (tV X.K r)) (hb : PE X b (tV X.K r'))
    (hw : swappedStores [.Tuple [.Name x px, .Name y py] kt pt] (.Tuple [a, b] k2 pt2) X.env = pure (some [x, y]) := by rfl) (hp : pn i = false := by rfl) (hq : pn j = false := by rfl)
    (hs : swapsWithSole [.Tuple [.Name x px, .Name y py] kt pt] (.Tuple [a, b] k2 pt2) pos.line X.env = pure false := by rfl) (hs1 : starEach [a, b] X.env = (false, eval a X.env) :: starEach [b] X.env := by rfl) (hs2 : starEach [b] X.env = (false, eval b X.env) :: starEach [] X.env := by rfl) :
    PS X (.Assign [.Tuple [.Name x px, .Name y py] kt pt] (.Tuple [a, b] k2 pt2) pos) (tS X.K pn (sPar i j r r')) :=
  (ps_par hc hN hi hj hij hx hy (pa_cons ha (pa_cons hb pa_nil hs2) hs1) hw hs).weak fun _ _ _ => sPar_imp hp hq
end
end Pf
/-! PfK: what is walked; for. -/
namespace Pf
open L2 PyProof.Rows PySem PySem.Spec
/-- the iterator gives what ds tells, while F stands -/
structure WalkD (K : PySem.W.Frag) (F : Hp) (J : It) (ds : List PyData) : Prop where
  goes : ∀ i F' H, i < ds.length → Same F F' → Same F' H → J.go i H
  stops : ∀ F' H, Same F F' → Same F' H → J.stop ds.length H
  yields : ∀ i F' H x H' d, ds[i]? = some d → Same F F' → Same F' H → J.yld i H x H' → ∃ F'', New F' H F'' H' ∧ Rel K F'' x d
abbrev EvI := Env1 → Option (List PyData × Env1)
def tI (K : PySem.W.Frag) (r : EvI) : TI := fun σ H R => ∃ F env fp ds env', Stt K F H env σ fp ∧ r env = some (ds, env') ∧
  ∀ F' H' fp' J, Step F H fp F' H' fp' → Stt K F' H' env' σ fp' → WalkD K F' J ds → R J H'
theorem PI.weak {X : Cx} {tg e : Expr} {t t' : TI} (h : PI X tg e t) (i : ∀ σ H R, t' σ H R → t σ H R) : PI X tg e t' := ⟨fun pins s σ H R I w => h.run pins s σ H R I (i _ _ _ w)⟩
theorem PI.pick {X : Cx} {tg e : Expr} {t' : TI} (i : ∀ σ H R, t' σ H R → ∃ t, PI X tg e t ∧ t σ H R) : PI X tg e t' := ⟨fun pins s σ H R I w => by
  obtain ⟨t, h, q⟩ := i _ _ _ w
  exact h.run pins s σ H R I q⟩
section
variable {K : PySem.W.Frag} {F : Hp} {a b : Addr} {xs ys : List V} {ds es : List PyData}
theorem walkD_list (h : SqL K F a xs) (r : RelAll K F xs ds) : WalkD K F (Itl K a) ds where
  goes := fun i F' H hi s1 s2 => walk_list.goes i H (by rw [r.length]; exact hi) (Same.sql s2 (Same.sql s1 h))
  stops := fun F' H s1 s2 => by rw [← r.length]; exact walk_list.stops H (Same.sql s2 (Same.sql s1 h))
  yields := fun i F' H x H' d e s1 s2 y => by
    obtain ⟨hi, _⟩ := List.getElem?_eq_some_iff.mp e
    obtain ⟨rfl, hx⟩ := walk_list.yields i H x H' (by rw [r.length]; exact hi) (Same.sql s2 (Same.sql s1 h)) y
    obtain ⟨v, h1, h2⟩ := r.get e
    rw [hx] at h1; cases h1
    exact ⟨F', New.refl s2, h2.mono s1⟩
theorem walkD_tup (h : F a = some (.tup xs)) (r : RelAll K F xs ds) : WalkD K F (Itt K a) ds where
  goes := fun i F' H hi s1 s2 => walk_tup.goes i H (by rw [r.length]; exact hi) (SqT.of (s2 _ _ (s1 _ _ h)))
  stops := fun F' H s1 s2 => by rw [← r.length]; exact walk_tup.stops H (SqT.of (s2 _ _ (s1 _ _ h)))
  yields := fun i F' H x H' d e s1 s2 y => by
    obtain ⟨hi, _⟩ := List.getElem?_eq_some_iff.mp e
    obtain ⟨rfl, hx⟩ := walk_tup.yields i H x H' (by rw [r.length]; exact hi) (SqT.of (s2 _ _ (s1 _ _ h))) y
    obtain ⟨v, h1, h2⟩ := r.get e
    rw [hx] at h1; cases h1
    exact ⟨F', New.refl s2, h2.mono s1⟩
/-- range(lo, ..), n numbers -/
def rngD (lo : Int) (n : Nat) : List PyData := (List.range n).map fun i => .int (lo + (i : Nat))
theorem rngD_length (lo : Int) (n : Nat) : (rngD lo n).length = n := by simp [rngD]
theorem walkD_rng {lo : Int} {n : Nat} : WalkD K F (Itr lo n) (rngD lo n) where
  goes := fun i F' H hi s1 s2 => walk_range.goes i H (by rw [rngD_length] at hi; exact hi) trivial
  stops := fun F' H s1 s2 => by rw [rngD_length]; exact walk_range.stops H trivial
  yields := fun i F' H x H' d e s1 s2 y => by
    obtain ⟨hi, _⟩ := List.getElem?_eq_some_iff.mp e
    rw [rngD_length] at hi
    obtain ⟨rfl, rfl⟩ := walk_range.yields i H x H' hi trivial y
    have : d = .int (lo + (i : Nat)) := by
      rw [show rngD lo n = (List.range n).map fun i : Nat => PyData.int (lo + (i : Nat)) from rfl, List.getElem?_map, List.getElem?_range hi] at e
      exact (Option.some.inj e).symm
    subst this
    exact ⟨F', New.refl s2, .int _⟩
theorem pair_new {F H : Hp} {T : Addr} {x y : V} {d e : PyData} (s : Same F H) (hT : H T = none) (r1 : Rel K F x d) (r2 : Rel K F y e) : ∃ F'', New F H F'' (upd H T (.tup [x, y])) ∧ Rel K F'' (.ref T) (.tuple [d, e]) := by
  have sm : Same F (upd F T (.tup [x, y])) := same_upd1 (same_none s hT)
  exact ⟨_, New.shut s hT, .tup upd_same (.cons (r1.mono sm) (.cons (r2.mono sm) .nil))⟩
/-- enumerate -/
def enumD (ds : List PyData) : List PyData := (List.range ds.length).zipWith (fun i d => .tuple [.int (i : Nat), d]) ds
theorem enumD_length : (enumD ds).length = ds.length := by simp [enumD]
theorem enumD_get {i : Nat} {d : PyData} (e : (enumD ds)[i]? = some d) : ∃ d', ds[i]? = some d' ∧ d = .tuple [.int (i : Nat), d'] := by
  obtain ⟨hi, e⟩ := List.getElem?_eq_some_iff.mp e
  rw [enumD_length] at hi
  refine ⟨ds[i], List.getElem?_eq_getElem hi, ?_⟩
  rw [← e]
  simp [enumD]
theorem walkD_enum (h : SqL K F a xs) (r : RelAll K F xs ds) : WalkD K F (Ite K a) (enumD ds) where
  goes := fun i F' H hi s1 s2 => walk_enum.goes i H (by rw [r.length]; rw [enumD_length] at hi; exact hi) (Same.sql s2 (Same.sql s1 h))
  stops := fun F' H s1 s2 => by rw [enumD_length, ← r.length]; exact walk_enum.stops H (Same.sql s2 (Same.sql s1 h))
  yields := fun i F' H x H' d e s1 s2 y => by
    obtain ⟨d', e', rfl⟩ := enumD_get e
    obtain ⟨hi, _⟩ := List.getElem?_eq_some_iff.mp e'
    obtain ⟨T, u, v, rfl, hT, rfl, h1, h2⟩ := walk_enum.yields i H x H' (by rw [r.length]; exact hi) (Same.sql s2 (Same.sql s1 h)) y
    obtain ⟨v', g1, g2⟩ := r.get e'
    cases h1
    rw [show xs[i]? = some v from h2] at g1; cases g1
    exact pair_new s2 hT (.int _) (g2.mono s1)
/-- zip of two -/
def zipD (ds es : List PyData) : List PyData := ds.zipWith (fun d e => .tuple [d, e]) es
theorem zipD_length : (zipD ds es).length = min ds.length es.length := by simp [zipD]
theorem zipD_get {i : Nat} {d : PyData} (e : (zipD ds es)[i]? = some d) : ∃ d' e', ds[i]? = some d' ∧ es[i]? = some e' ∧ d = .tuple [d', e'] := by
  unfold zipD at e
  rw [List.getElem?_zipWith] at e
  split at e
  · rename_i h1 h2
    cases e
    exact ⟨_, _, h1, h2, rfl⟩
  · cases e
theorem walkD_zip (h : SqL K F a xs) (r : RelAll K F xs ds) (h' : SqL K F b ys) (r' : RelAll K F ys es) : WalkD K F (Itz K a b) (zipD ds es) where
  goes := fun i F' H hi s1 s2 => (walk_zip rfl).goes i H (by rw [r.length, r'.length]; rw [zipD_length] at hi; exact hi) ⟨Same.sql s2 (Same.sql s1 h), Same.sql s2 (Same.sql s1 h')⟩
  stops := fun F' H s1 s2 => by rw [zipD_length, ← r.length, ← r'.length]; exact (walk_zip rfl).stops H ⟨Same.sql s2 (Same.sql s1 h), Same.sql s2 (Same.sql s1 h')⟩
  yields := fun i F' H x H' d e s1 s2 y => by
    have hi := (List.getElem?_eq_some_iff.mp e).1
    obtain ⟨d', e', q1, q2, rfl⟩ := zipD_get e
    obtain ⟨T, u, v, rfl, hT, rfl, h1, h2⟩ := (walk_zip rfl).yields i H x H' (by rw [r.length, r'.length]; rw [zipD_length] at hi; exact hi) ⟨Same.sql s2 (Same.sql s1 h), Same.sql s2 (Same.sql s1 h')⟩ y
    obtain ⟨v', g1, g2⟩ := r.get q1
    obtain ⟨v'', g3, g4⟩ := r'.get q2
    rw [show xs[i]? = some u from h1] at g1; cases g1
    rw [show ys[i]? = some v from h2] at g3; cases g3
    exact pair_new s2 hT (g2.mono s1) (g4.mono s1)
theorem walkD_zipT (h : F a = some (.tup xs)) (r : RelAll K F xs ds) (h' : F b = some (.tup ys)) (r' : RelAll K F ys es) : WalkD K F (RZ.ItzT K a b) (zipD ds es) where
  goes := fun i F' H hi s1 s2 => by
    rw [zipD_length] at hi
    have l1 := r.length
    have l2 := r'.length
    exact ⟨xs, ys, xs[i]'(by omega), ys[i]'(by omega), SqT.of (s2 _ _ (s1 _ _ h)), SqT.of (s2 _ _ (s1 _ _ h')), List.getElem?_eq_getElem (by omega), List.getElem?_eq_getElem (by omega)⟩
  stops := fun F' H s1 s2 => by
    rw [zipD_length]
    have l1 := r.length
    have l2 := r'.length
    exact ⟨xs, ys, SqT.of (s2 _ _ (s1 _ _ h)), SqT.of (s2 _ _ (s1 _ _ h')), by omega⟩
  yields := fun i F' H x H' d e s1 s2 y => by
    have hi := (List.getElem?_eq_some_iff.mp e).1
    obtain ⟨d', e', q1, q2, rfl⟩ := zipD_get e
    obtain ⟨T, u, v, rfl, hT, rfl, h1, h2⟩ := y
    obtain ⟨v', g1, g2⟩ := r.get q1
    obtain ⟨v'', g3, g4⟩ := r'.get q2
    rw [show xs[i]? = some u from h1 _ (SqT.of (s2 _ _ (s1 _ _ h)))] at g1; cases g1
    rw [show ys[i]? = some v from h2 _ (SqT.of (s2 _ _ (s1 _ _ h')))] at g3; cases g3
    exact pair_new s2 hT (g2.mono s1) (g4.mono s1)
end
/-! ### sources -/
def seqOf : PyData → Option (List PyData)
  | .list ds => some ds
  | .tuple ds => some ds
  | _ => none
def iSeq (r : EvO) : EvI := fun env => (r env).bind fun p => (frzO p.2 p.1).bind fun q => (seqOf q.1).bind fun ds => some (ds, q.2)
def intOf : PyData → Option Int
  | .int i => some i
  | _ => none
open Classical in
noncomputable def ifP {α : Type} (p : Prop) (o : Option α) : Option α := if p then o else none
theorem ifP_some {α : Type} {p : Prop} {o : Option α} {s : α} (h : ifP p o = some s) : p ∧ o = some s := by
  unfold ifP at h
  split at h
  · rename_i q; exact ⟨q, h⟩
  · cases h
theorem ifP_pos {α : Type} {p : Prop} {o : Option α} (h : p) : ifP p o = o := if_pos h
def Small (i : Int) : Prop := -(2 ^ 62) ≤ i ∧ i < 2 ^ 62
noncomputable def iRng1 (r : EvO) : EvI := fun env => (r env).bind fun p => (look p.2 p.1).bind fun d => (intOf d).bind fun n => ifP (Small n) (some (rngD 0 n.toNat, p.2))
noncomputable def iRng2 (r r' : EvO) : EvI := fun env => (r env).bind fun p => (r' p.2).bind fun p' => (look p'.2 p.1).bind fun d => (look p'.2 p'.1).bind fun d' => (intOf d).bind fun m => (intOf d').bind fun n => ifP (Small m ∧ Small n) (some (rngD m (n - m).toNat, p'.2))
def iEnu (r : EvO) : EvI := fun env => (iSeq r env).bind fun p => some (enumD p.1, p.2)
def iZip2 (r r' : EvO) : EvI := fun env => (r env).bind fun p => (r' p.2).bind fun p' => (frzO p'.2 p.1).bind fun q => (frzO q.2 p'.1).bind fun q' => match q.1, q'.1 with
  | .list ds, .list es => some (zipD ds es, q'.2)
  | .tuple ds, .tuple es => some (zipD ds es, q'.2)
  | _, _ => none
section
variable {X : Cx} {tg e a b c : Expr} {pos p : Pos}
theorem iSeq_imp {K : PySem.W.Frag} {r : EvO} {σ : L2.St} {H : Hp} {R : It → Hp → Prop} (h : tI K (iSeq r) σ H R) : iList K (tO K r) σ H R ∨ iTup K (tO K r) σ H R := by
  obtain ⟨F, env, fp, ds, env', t, e1, q⟩ := h
  unfold iSeq at e1
  cases e2 : r env with
  | none => rw [e2] at e1; cases e1
  | some p =>
    obtain ⟨o, env1⟩ := p
    rw [e2] at e1
    cases e3 : frzO env1 o with
    | none => simp [e3] at e1
    | some p3 =>
      obtain ⟨d, env2⟩ := p3
      cases d with
      | list ds' =>
        simp [e3, seqOf] at e1
        obtain ⟨rfl, rfl⟩ := e1
        refine .inl ⟨F, env, fp, o, env1, t, e2, fun F1 H1 fp1 v s1 t1 o1 => ?_⟩
        obtain ⟨F2, fp2, s2, t2, r2⟩ := frzO_go t1 o1 e3
        cases r2 with
        | lst h r => exact ⟨_, rfl, ⟨_, Same.sql t2.sub h⟩, q F2 H1 fp2 _ (s1.trans s2) t2 (walkD_list h r)⟩
      | tuple ds' =>
        simp [e3, seqOf] at e1
        obtain ⟨rfl, rfl⟩ := e1
        refine .inr ⟨F, env, fp, o, env1, t, e2, fun F1 H1 fp1 v s1 t1 o1 => ?_⟩
        obtain ⟨F2, fp2, s2, t2, r2⟩ := frzO_go t1 o1 e3
        cases r2 with
        | tup h r => exact ⟨_, rfl, ⟨_, SqT.of (t2.sub _ _ h)⟩, q F2 H1 fp2 _ (s1.trans s2) t2 (walkD_tup h r)⟩
      | none => simp [e3, seqOf] at e1
      | bool _ => simp [e3, seqOf] at e1
      | int _ => simp [e3, seqOf] at e1
      | str _ => simp [e3, seqOf] at e1
      | dict _ => simp [e3, seqOf] at e1
theorem si_seq {r : EvO} (h : PE X e (tO X.K r)) : PI X tg e (tI X.K (iSeq r)) := PI.pick fun σ H R w => by
  rcases iSeq_imp w with w | w
  · exact ⟨_, pi_list h, w⟩
  · exact ⟨_, pi_tup h, w⟩
theorem si_rng1 {r : EvO} (hg : Gl X "range") (hm : X.mg "range" = none) (ha : PE X a (tO X.K r)) (hs : starEach [a] X.env = [(false, eval a X.env)] := by rfl) (hs2 : starEach [a] X.env = (false, eval a X.env) :: starEach [] X.env := by rfl) :
    PI X tg (.Call (.Name "range" p) [a] [] pos) (tI X.K (iRng1 r)) := PI.weak (pi_range1 hg hm (pa_cons ha pa_nil hs2) hs) fun σ H R h => by
  obtain ⟨F, env, fp, ds, env', t, e1, q⟩ := h
  unfold iRng1 at e1
  cases e2 : r env with
  | none => rw [e2] at e1; cases e1
  | some p =>
    obtain ⟨o, env1⟩ := p
    rw [e2] at e1
    cases e3 : look env1 o with
    | none => simp [e3] at e1
    | some d =>
      cases d with
      | int n =>
        simp [e3, intOf] at e1
        obtain ⟨z, e1⟩ := ifP_some e1
        cases e1
        refine ⟨F, env, fp, o, _, t, e2, fun F1 H1 fp1 v s1 t1 o1 => ?_⟩
        exact ⟨n, by rw [(look_rel t1 o1 e3).int], z.1, z.2, q F1 H1 fp1 _ s1 t1 walkD_rng⟩
      | none => simp [e3, intOf] at e1
      | bool _ => simp [e3, intOf] at e1
      | list _ => simp [e3, intOf] at e1
      | tuple _ => simp [e3, intOf] at e1
      | str _ => simp [e3, intOf] at e1
      | dict _ => simp [e3, intOf] at e1
theorem intOf_some {d : PyData} {n : Int} (h : intOf d = some n) : d = .int n := by
  unfold intOf at h
  split at h
  · cases h; rfl
  · cases h
theorem si_rng2 {r r' : EvO} (hg : Gl X "range") (hm : X.mg "range" = none) (ha : PE X a (tO X.K r)) (hb : PE X b (tO X.K r')) (hs : starEach [a, b] X.env = [(false, eval a X.env), (false, eval b X.env)] := by rfl) (hs2 : starEach [b] X.env = [(false, eval b X.env)] := by rfl)
    (hs3 : starEach [b] X.env = (false, eval b X.env) :: starEach [] X.env := by rfl) (hs4 : starEach [a, b] X.env = (false, eval a X.env) :: starEach [b] X.env := by rfl) :
    PI X tg (.Call (.Name "range" p) [a, b] [] pos) (tI X.K (iRng2 r r')) := PI.weak (pi_range2 hg hm (pa_cons ha (pa_cons hb pa_nil hs3) hs4) hs hs2) fun σ H R h => by
  obtain ⟨F, env, fp, ds, env', t, e1, q⟩ := h
  unfold iRng2 at e1
  cases e2 : r env with
  | none => rw [e2] at e1; cases e1
  | some p =>
    obtain ⟨o, env1⟩ := p
    rw [e2] at e1
    cases e3 : r' env1 with
    | none => simp [e3] at e1
    | some p3 =>
      obtain ⟨o', env2⟩ := p3
      cases e4 : look env2 o with
      | none => simp [e3, e4] at e1
      | some d =>
        cases e5 : look env2 o' with
        | none => simp [e3, e4, e5] at e1
        | some d' =>
          cases e6 : intOf d with
          | none => simp [e3, e4, e5, e6] at e1
          | some m =>
            cases e7 : intOf d' with
            | none => simp [e3, e4, e5, e6, e7] at e1
            | some n =>
              simp [e3, e4, e5, e6, e7] at e1
              obtain ⟨⟨z1, z2⟩, e1⟩ := ifP_some e1
              cases e1
              cases intOf_some e6
              cases intOf_some e7
              refine ⟨F, env, fp, o, env1, t, e2, fun F1 H1 fp1 v s1 t1 o1 => ?_⟩
              refine ⟨F1, env1, fp1, o', _, t1, e3, fun F2 H2 fp2 u s2 t2 o2 => ?_⟩
              exact ⟨m, n, by rw [(look_rel t2 (o1.mono s2.fz) e4).int, (look_rel t2 o2 e5).int], ⟨z1.1, z1.2, z2.1, z2.2⟩, q F2 H2 fp2 _ (s1.trans s2) t2 walkD_rng⟩
theorem si_zip {r r' : EvO} {elts : List Expr} {kk : Nat} {tpos : Pos} (hg : Gl X "zip") (hm : X.mg "zip" = none) (ha : PE X a (tO X.K r)) (hb : PE X b (tO X.K r')) (hpl : (backTo pos (starEach [b] X.env)).any (·.1) = false := by rfl)
    (hs3 : starEach [b] X.env = (false, eval b X.env) :: starEach [] X.env := by rfl) (hs4 : starEach [a, b] X.env = (false, eval a X.env) :: starEach [b] X.env := by rfl) :
    PI X (.Tuple elts kk tpos) (.Call (.Name "zip" p) [a, b] [] pos) (tI X.K (iZip2 r r')) := PI.weak (RZ.pi_zipA hg hm (pa_cons ha (pa_cons hb pa_nil hs3) hs4) hs4 hpl) fun σ H R h => by
  obtain ⟨F, env, fp, ds, env', t, e1, q⟩ := h
  unfold iZip2 at e1
  cases e2 : r env with
  | none => rw [e2] at e1; cases e1
  | some p =>
    obtain ⟨o, env1⟩ := p
    rw [e2] at e1
    cases e3 : r' env1 with
    | none => simp [e3] at e1
    | some p3 =>
      obtain ⟨o', env2⟩ := p3
      cases e4 : frzO env2 o with
      | none => simp [e3, e4] at e1
      | some p4 =>
        obtain ⟨d, env3⟩ := p4
        cases e5 : frzO env3 o' with
        | none => simp [e3, e4, e5] at e1
        | some p5 =>
          obtain ⟨d', env4⟩ := p5
          simp only [e3, e4, e5, Option.bind_some] at e1
          refine ⟨F, env, fp, o, env1, t, e2, fun F1 H1 fp1 v s1 t1 o1 => ?_⟩
          refine ⟨F1, env1, fp1, o', env2, t1, e3, fun F2 H2 fp2 u s2 t2 o2 => ?_⟩
          obtain ⟨F3, fp3, s3, t3, r3⟩ := frzO_go t2 (o1.mono s2.fz) e4
          obtain ⟨F4, fp4, s4, t4, r4⟩ := frzO_go t3 (o2.mono s3.fz) e5
          have r3 := r3.mono s4.fz
          split at e1
          · cases e1
            cases r3 with
            | lst h r =>
              cases r4 with
              | lst h' r' => exact ⟨_, _, _, _, rfl, .inl ⟨Same.sql t4.sub h, Same.sql t4.sub h', q F4 H2 fp4 _ (((s1.trans s2).trans s3).trans s4) t4 (walkD_zip h r h' r')⟩⟩
          · cases e1
            cases r3 with
            | tup h r =>
              cases r4 with
              | tup h' r' => exact ⟨_, _, _, _, rfl, .inr ⟨SqT.of (t4.sub _ _ h), SqT.of (t4.sub _ _ h'), q F4 H2 fp4 _ (((s1.trans s2).trans s3).trans s4) t4 (walkD_zipT h r h' r')⟩⟩
          · cases e1
end
/-! ### for -/
/-- what a turn's end is for the loop -/
def turnG (rest : EvS) : Option Fl → Option Fl
  | some (.nx e) => rest e
  | some (.ct e) => rest e
  | some (.bk e) => some (.nx e)
  | some (.rt s e) => some (.rt s e)
  | none => none
def forL (g : EvG) (r : EvS) : List PyData → EvS
  | [] => fun env => some (.nx env)
  | d :: ds => fun env => (g d env).bind fun e => turnG (forL g r ds) (r e)
def sFor (s : EvI) (g : EvG) (r : EvS) : EvS := fun env => (s env).bind fun p => forL g r p.1 p.2
section
variable {X : Cx} {pn : Nat → Bool}
theorem sFor_imp {s : EvI} {g : EvG} {r : EvS} {D : Ends} {σ : L2.St} {H : Hp} (h : tS X.K pn (sFor s g r) D σ H) : tFor (tI X.K s) (tG X.K pn g) (tS X.K pn r) D σ H := by
  obtain ⟨F, env, fp, fl, t, e1, w⟩ := h
  unfold sFor at e1
  cases e2 : s env with
  | none => rw [e2] at e1; cases e1
  | some p =>
    obtain ⟨ds, env1⟩ := p
    rw [e2] at e1
    have e1 : forL g r ds env1 = some fl := e1
    refine ⟨F, env, fp, ds, env1, t, e2, fun F1 H1 fp1 J s1 t1 wk => ?_⟩
    refine ⟨fun i m σ' H' => ∃ F' fp' e, m = ds.length - i ∧ i ≤ ds.length ∧ Pin pn σ σ' ∧ Step F1 H1 fp1 F' H' fp' ∧ Stt X.K F' H' e σ' fp' ∧ forL g r (ds.drop i) e = some fl,
      ⟨_, F1, fp1, env1, rfl, Nat.zero_le _, Pin.refl, Step.refl, t1, e1⟩, ?_⟩
    rintro i m σ' H' ⟨F', fp', e, rfl, hi, pp, st, t', e3⟩
    by_cases hlt : i < ds.length
    · have hd : ds.drop i = ds[i] :: ds.drop (i + 1) := List.drop_eq_getElem_cons hlt
      rw [hd] at e3
      unfold forL at e3
      cases e4 : g ds[i] e with
      | none => rw [e4] at e3; cases e3
      | some e' =>
        rw [e4] at e3
        have e3 : turnG (forL g r (ds.drop (i + 1))) (r e') = some fl := e3
        refine .inr ⟨wk.goes i F' H' hlt st.fz t'.sub, fun σ2 H2 => ∃ F2 fp2 e2, i + 1 ≤ ds.length ∧ Pin pn σ σ2 ∧ Step F1 H1 fp1 F2 H2 fp2 ∧ Stt X.K F2 H2 e2 σ2 fp2 ∧ forL g r (ds.drop (i + 1)) e2 = some fl, ?_, fun x H2 y => ?_⟩
        · rintro σ2 H2 ⟨F2, fp2, e2, h1, h2, h3, h4, h5⟩
          exact ⟨_, by omega, F2, fp2, e2, rfl, h1, h2, h3, h4, h5⟩
        · obtain ⟨F2, n2, r2⟩ := wk.yields i F' H' x H2 _ (List.getElem?_eq_getElem hlt) st.fz t'.sub y
          have st2 := st.trans (n2.step t'.there)
          have t2 := t'.new n2
          refine ⟨F2, e, fp', ds[i], e', t2, r2, e4, fun σ3 fp3 p3 s3 t3 => ?_⟩
          have st3 := st2.trans s3
          have pp3 := pp.trans p3
          cases e5 : r e' with
          | none => rw [e5] at e3; cases e3
          | some f =>
            rw [e5] at e3
            refine ⟨F2, e', fp3, f, t3, e5, ?_⟩
            cases f with
            | nx e6 => exact fun σ4 F4 H4 fp4 p4 s4 t4 => ⟨F4, fp4, e6, hlt, pp3.trans p4, st3.trans s4, t4, e3⟩
            | ct e6 => exact fun σ4 F4 H4 fp4 p4 s4 t4 => ⟨F4, fp4, e6, hlt, pp3.trans p4, st3.trans s4, t4, e3⟩
            | bk e6 => cases e3; exact fun σ4 F4 H4 fp4 p4 s4 t4 => w σ4 F4 H4 fp4 (pp3.trans p4) (s1.trans (st3.trans s4)) t4
            | rt sl e6 => cases e3; exact fun σ4 F4 H4 fp4 v p4 s4 t4 => w σ4 F4 H4 fp4 v (pp3.trans p4) (s1.trans (st3.trans s4)) t4
    · have ei : i = ds.length := by omega
      subst ei
      rw [List.drop_length] at e3
      cases e3
      exact .inl ⟨wk.stops F' H' st.fz t'.sub, w σ' F' H' fp' pp (s1.trans st) t'⟩
theorem sp_for {tg iter : Expr} {body : List Stmt} {pos : Pos} {s : EvI} {g : EvG} {r : EvS} (hp : PassesOwn (model X.prog X.w) X.A X.env X.xe) (hc : X.calm = true) (hi : PI X tg iter (tI X.K s)) (hg : PG X tg (tG X.K pn g)) (hb : PSs X body (tS X.K pn r))
    (hs : ∀ x, foldedSetIterable iter X.env x = pure x := by intro _; rfl) : PS X (.For tg iter body [] pos) (tS X.K pn (sFor s g r)) := (ps_for hp hc hi hg hb hs).weak fun _ _ _ => sFor_imp
end
end Pf
/-! PfL: comprehensions. -/
namespace Pf
open L2 PyProof.Rows PySem PySem.Spec
def wipeS (env : Env1) : List Nat → Env1
  | [] => env
  | v :: vs => (wipeS env vs).set v .no
def keepV : Slot → Slot
  | .val d => .val d
  | _ => .no
def backS (e0 env : Env1) : List Nat → Env1
  | [] => env
  | v :: vs => backS e0 (env.set v (keepV (e0.getD v .no))) vs
def bkS (σ τ : L2.St) : List Nat → L2.St
  | [] => τ
  | v :: vs => bkS σ (τ.set v (σ.getD v none)) vs
def bTrue : EvB := fun env => some (true, env)
def lcL (g : EvG) (c : EvB) (r : EvO) (vs : List Nat) : List PyData → Env1 → List PyData → Option (List PyData × Env1)
  | [], env, acc => some (acc, env)
  | d :: ds, env, acc => (g d (wipeS env vs)).bind fun e1 => (c e1).bind fun p => if p.1 then (r p.2).bind fun q => (frzO q.2 q.1).bind fun z => lcL g c r vs ds z.2 (acc ++ [z.1]) else lcL g c r vs ds p.2 acc
noncomputable def vLc (s : EvI) (g : EvG) (c : EvB) (r : EvO) (vs : List Nat) : EvV := fun env => (s env).bind fun p => (lcL g c r vs p.1 p.2 []).bind fun q => ifP (Fits q.1.length) (some (.own (.list q.1), backS p.2 (wipeS q.2 vs) vs))
theorem lcL_len {g : EvG} {c : EvB} {r : EvO} {vs : List Nat} : ∀ {ds : List PyData} {env : Env1} {acc : List PyData} {out : List PyData} {e : Env1}, lcL g c r vs ds env acc = some (out, e) → acc.length ≤ out.length
  | [], env, acc, out, e, h => by cases h; exact Nat.le_refl _
  | d :: ds, env, acc, out, e, h => by
    unfold lcL at h
    cases e1 : g d (wipeS env vs) with
    | none => rw [e1] at h; cases h
    | some x =>
      cases e2 : c x with
      | none => simp [e1, e2] at h
      | some p =>
        obtain ⟨b, x2⟩ := p
        simp only [e1, e2, Option.bind_some] at h
        cases b with
        | true =>
          rw [if_pos rfl] at h
          cases e3 : r x2 with
          | none => rw [e3] at h; cases h
          | some p3 =>
            cases e4 : frzO p3.2 p3.1 with
            | none => simp [e3, e4] at h
            | some z =>
              simp only [e3, e4, Option.bind_some] at h
              have := lcL_len h
              rw [List.length_append] at this
              omega
        | false =>
          rw [if_neg Bool.false_ne_true] at h
          exact lcL_len h
section
variable {K : PySem.W.Frag} {F F' H H' F1 H1 : Hp} {env env' : List Slot} {σ τ τ' : L2.St} {fp fp' fp1 : List Addr} {D : Addr} {ds : List PyData}
theorem Stt.setAt {i : Nat} {s : Slot} {o : Option V} (t : Stt K F H env τ fp) (h : s = .no ∨ ∃ d x, s = .val d ∧ o = some x ∧ Rel K F x d) : ∃ fp', Step F H fp F H fp' ∧ Stt K F H (env.set i s) (τ.set i o) fp' := by
  by_cases hi : i < env.length
  · rcases h with rfl | ⟨d, x, rfl, rfl, r⟩
    · obtain ⟨fp1, s1, t1⟩ := t.clear (i := i)
      exact ⟨fp1, s1, t1.setNo (by rw [List.getElem?_set_self hi])⟩
    · exact (t.pushV r).store hi
  · have hl := t.len
    rw [List.set_eq_of_length_le (by omega), List.set_eq_of_length_le (by omega)]
    exact ⟨fp, Step.refl, t⟩
theorem Stt.wipe (t : Stt K F H env τ fp) : ∀ vs : List Nat, ∃ fp', Step F H fp F H fp' ∧ Stt K F H (wipeS env vs) (L2.wipe τ vs) fp'
  | [] => ⟨fp, Step.refl, t⟩
  | v :: vs => by
    obtain ⟨fp1, s1, t1⟩ := Stt.wipe t vs
    obtain ⟨fp2, s2, t2⟩ := t1.setAt (i := v) (s := .no) (o := none) (.inl rfl)
    exact ⟨fp2, s1.trans s2, t2⟩
theorem Stt.back {e0 : Env1} : ∀ (vs : List Nat) {env : Env1} {τ : L2.St} {fp : List Addr}, Stt K F H env τ fp → (∀ (v : Nat) (d : PyData), e0[v]? = some (Slot.val d) → ∃ x, σ[v]? = some (some x) ∧ Rel K F x d) → ∃ fp', Step F H fp F H fp' ∧ Stt K F H (backS e0 env vs) (bkS σ τ vs) fp'
  | [], env, τ, fp, t, _ => ⟨fp, Step.refl, t⟩
  | v :: vs, env, τ, fp, t, h => by
    have : keepV (e0.getD v .no) = .no ∨ ∃ d x, keepV (e0.getD v .no) = .val d ∧ σ.getD v none = some x ∧ Rel K F x d := by
      rw [List.getD_eq_getElem?_getD, List.getD_eq_getElem?_getD]
      cases e : e0[v]? with
      | none => exact .inl rfl
      | some s =>
        cases s with
        | val d =>
          obtain ⟨x, h1, h2⟩ := h v d e
          exact .inr ⟨d, x, rfl, by rw [h1]; rfl, h2⟩
        | no => exact .inl rfl
        | own _ => exact .inl rfl
        | deal _ _ => exact .inl rfl
    obtain ⟨fp1, s1, t1⟩ := t.setAt (i := v) this
    obtain ⟨fp2, s2, t2⟩ := Stt.back vs t1 h
    exact ⟨fp2, s1.trans s2, t2⟩
theorem bkS_get (σ : L2.St) : ∀ (vs : List Nat) (τ : L2.St), τ.length = σ.length → (bkS σ τ vs).length = σ.length ∧ ∀ j, (bkS σ τ vs)[j]? = if j ∈ vs then σ[j]? else τ[j]?
  | [], τ, l => ⟨l, fun j => by simp [bkS]⟩
  | v :: vs, τ, l => by
    obtain ⟨h1, h2⟩ := bkS_get σ vs (τ.set v (σ.getD v none)) (by rw [List.length_set]; exact l)
    refine ⟨h1, fun j => ?_⟩
    show (bkS σ (τ.set v (σ.getD v none)) vs)[j]? = _
    rw [h2]
    by_cases hj : j ∈ vs
    · rw [if_pos hj, if_pos (List.mem_cons_of_mem _ hj)]
    · rw [if_neg hj]
      by_cases hv : j = v
      · subst hv
        rw [if_pos List.mem_cons_self, List.getD_eq_getElem?_getD]
        by_cases hl : j < τ.length
        · rw [List.getElem?_set_self hl, List.getElem?_eq_getElem (by omega)]
          rfl
        · rw [List.getElem?_eq_none (by rw [List.length_set]; omega), List.getElem?_eq_none (by omega)]
      · rw [if_neg (by simp [hv, hj]), List.getElem?_set_ne (Ne.symm hv)]
theorem wipe_get (σ : L2.St) : ∀ (vs : List Nat) (j : Nat), j ∉ vs → (L2.wipe σ vs)[j]? = σ[j]?
  | [], _, _ => rfl
  | v :: vs, j, h => by
    show ((L2.wipe σ vs).set v none)[j]? = _
    rw [List.getElem?_set_ne (fun e => h (by simp [e])), wipe_get σ vs j fun m => h (List.mem_cons_of_mem _ m)]
theorem wipe_at (σ : L2.St) : ∀ (vs : List Nat) (j : Nat), j ∈ vs → (L2.wipe σ vs)[j]? = if j < σ.length then some none else none
  | v :: vs, j, h => by
    show ((L2.wipe σ vs).set v none)[j]? = _
    by_cases e : j = v
    · subst e
      by_cases hl : j < σ.length
      · rw [List.getElem?_set_self (by rw [wipe_length]; exact hl), if_pos hl]
      · rw [List.getElem?_eq_none (by rw [List.length_set, wipe_length]; omega), if_neg hl]
    · rw [List.getElem?_set_ne (Ne.symm e)]
      exact wipe_at σ vs j ((List.mem_cons.mp h).resolve_left e)
theorem bkS_wipe (σ : L2.St) (vs : List Nat) : bkS σ (L2.wipe σ vs) vs = σ := by
  obtain ⟨h1, h2⟩ := bkS_get σ vs (L2.wipe σ vs) (wipe_length σ vs)
  refine List.ext_getElem? fun j => ?_
  rw [h2]
  split
  · rfl
  · rename_i h
    exact wipe_get σ vs j h
theorem wipe_pin {vs : List Nat} (p : Pin (fun i => !vs.contains i) τ τ') : L2.wipe τ' vs = L2.wipe τ vs := by
  refine List.ext_getElem? fun j => ?_
  by_cases h : j ∈ vs
  · rw [wipe_at _ _ _ h, wipe_at _ _ _ h, p.1]
  · rw [wipe_get _ _ _ h, wipe_get _ _ _ h]
    exact p.2 j (by simp [h])
theorem wipe_wipe (σ : L2.St) (vs : List Nat) : L2.wipe (L2.wipe σ vs) vs = L2.wipe σ vs := by
  refine List.ext_getElem? fun j => ?_
  by_cases h : j ∈ vs
  · rw [wipe_at _ _ _ h, wipe_at _ _ _ h, wipe_length]
  · rw [wipe_get _ _ _ h]
/-- the list that grows -/
def Acc (K : PySem.W.Frag) (F H : Hp) (fp : List Addr) (D : Addr) (ds : List PyData) : Prop := ∃ xs, H D = some (.lst xs) ∧ RelAll K F xs ds ∧ F D = none ∧ D ∉ fp
theorem Acc.step (a : Acc K F H fp D ds) (st : Step F H fp F' H' fp') : Acc K F' H' fp' D ds := by
  obtain ⟨xs, h1, h2, h3, h4⟩ := a
  refine ⟨xs, st.keep _ _ h1 h4, h2.mono st.fz, ?_, fun m => ?_⟩
  · cases e : F' D with
    | none => rfl
    | some o =>
      rcases st.newF D o e with z | z | z
      · rw [h3] at z; cases z
      · exact absurd z h4
      · rw [h1] at z; cases z
  · rcases st.newP D m with z | z
    · exact h4 z
    · rw [h1] at z; cases z
theorem Stt.aside {u : HO} (t : Stt K F H env τ fp) (h3 : F D = none) (h4 : D ∉ fp) (nt : ∀ xs, u ≠ .tup xs) : Stt K F (upd H D u) env τ fp where
  sub := fun b o e => by
    by_cases hb : b = D
    · subst hb; rw [h3] at e; cases e
    · rw [upd_ne hb]; exact t.sub b o e
  rel := t.rel.mono (Same.refl _) fun a m => upd_ne fun e => h4 (e ▸ m)
  nd := t.nd
  out := t.out
  tup := fun b xs e => by
    by_cases hb : b = D
    · subst hb; rw [upd_same] at e; exact absurd (Option.some.inj e) (nt xs)
    · rw [upd_ne hb] at e; exact t.tup b xs e
theorem Step.aside {u : HO} (st : Step F1 H1 fp1 F H fp) (h1 : H1 D = none) : Step F1 H1 fp1 F (upd H D u) fp :=
  ⟨st.fz, fun b o e n => by rw [upd_ne (ne_of_none e h1)]; exact st.keep b o e n, st.newF, st.newP⟩
end
section
variable {X : Cx}
theorem vLc_imp {s : EvI} {g : EvG} {c : EvB} {r : EvO} {vs : List Nat} {σ : L2.St} {H : Hp} {Q : VK} (h : tV X.K (vLc s g c r vs) σ H Q) : tLc (tI X.K s) (tG X.K (fun i => !vs.contains i) g) (tB' X.K c) (tO X.K r) vs σ H Q := by
  obtain ⟨F, env, fp, sl, env', t, e1, q⟩ := h
  unfold vLc at e1
  cases e2 : s env with
  | none => rw [e2] at e1; cases e1
  | some p =>
    obtain ⟨ds, env1⟩ := p
    rw [e2] at e1
    cases e3 : lcL g c r vs ds env1 [] with
    | none => simp [e3] at e1
    | some p3 =>
      obtain ⟨out, envz⟩ := p3
      simp only [e3, Option.bind_some] at e1
      obtain ⟨z, e1⟩ := ifP_some e1
      cases e1
      refine ⟨F, env, fp, ds, env1, t, e2, fun F1 H1 fp1 J s1 t1 wk D hD => ?_⟩
      have saved : ∀ (v : Nat) (d : PyData), env1[v]? = some (Slot.val d) → ∃ x, σ[v]? = some (some x) ∧ Rel X.K F1 x d := fun v d e => by
        obtain ⟨o, f, g1, g2, _⟩ := t1.rel.slot e
        cases g2 with
        | val g2 => exact ⟨_, g1, g2⟩
      refine ⟨fun i m H' => ∃ F' fp' e acc, m = ds.length - i ∧ i ≤ ds.length ∧ Step F1 H1 fp1 F' H' fp' ∧ Stt X.K F' H' (wipeS e vs) (L2.wipe σ vs) fp' ∧ Acc X.K F' H' fp' D acc ∧ lcL g c r vs (ds.drop i) e acc = some (out, envz), ?_, ?_⟩
      · obtain ⟨fpw, sw, tw⟩ := t1.wipe vs
        have nD : D ∉ fpw := fun m => by
          obtain ⟨u, e⟩ := tw.there D m
          rw [hD] at e; cases e
        have fD : F1 D = none := same_none t1.sub hD
        exact ⟨_, F1, fpw, env1, [], rfl, Nat.zero_le _, sw.aside hD, tw.aside fD nD (fun _ z => nomatch z), ⟨[], upd_same, .nil, fD, nD⟩, e3⟩
      · rintro i m H' ⟨F', fp', e, acc, rfl, hi, st, t', ac, e4⟩
        by_cases hlt : i < ds.length
        · have hd : ds.drop i = ds[i] :: ds.drop (i + 1) := List.drop_eq_getElem_cons hlt
          rw [hd] at e4
          unfold lcL at e4
          cases e5 : g ds[i] (wipeS e vs) with
          | none => rw [e5] at e4; cases e4
          | some e' =>
            cases e6 : c e' with
            | none => simp [e5, e6] at e4
            | some p6 =>
              obtain ⟨b, e''⟩ := p6
              simp only [e5, e6, Option.bind_some] at e4
              refine .inr ⟨wk.goes i F' H' hlt st.fz t'.sub, fun H2 => ∃ F2 fp2 e2 acc2, Step F1 H1 fp1 F2 H2 fp2 ∧ Stt X.K F2 H2 (wipeS e2 vs) (L2.wipe σ vs) fp2 ∧ Acc X.K F2 H2 fp2 D acc2 ∧ lcL g c r vs (ds.drop (i + 1)) e2 acc2 = some (out, envz), ?_, fun x H2 y => ?_⟩
              · rintro H2 ⟨F2, fp2, e2, acc2, h1, h2, h3, h4⟩
                exact ⟨_, by omega, F2, fp2, e2, acc2, rfl, hlt, h1, h2, h3, h4⟩
              · obtain ⟨F2, n2, r2⟩ := wk.yields i F' H' x H2 _ (List.getElem?_eq_getElem hlt) st.fz t'.sub y
                have nst := n2.step t'.there
                have ac2 := ac.step nst
                refine ⟨F2, wipeS e vs, fp', ds[i], e', t'.new n2, r2, e5, fun σ3 fp3 p3 s3 t3 => ?_⟩
                have ew : L2.wipe σ3 vs = L2.wipe σ vs := (wipe_pin p3).trans (wipe_wipe σ vs)
                refine ⟨ew, F2, e', fp3, b, e'', t3, e6, fun F4 H4 fp4 s4 t4 => ?_⟩
                have ac4 := (ac2.step s3).step s4
                have st4 := ((st.trans nst).trans s3).trans s4
                cases b with
                | false =>
                  rw [if_neg Bool.false_ne_true] at e4
                  refine L2.iteF ?_
                  obtain ⟨fp5, s5, t5⟩ := t4.wipe vs
                  rw [ew] at t5
                  exact ⟨F4, fp5, e'', acc, st4.trans s5, t5, ac4.step s5, e4⟩
                | true =>
                  rw [if_pos rfl] at e4
                  refine L2.iteT ?_
                  cases e7 : r e'' with
                  | none => rw [e7] at e4; cases e4
                  | some p7 =>
                    obtain ⟨o, e8⟩ := p7
                    cases e9 : frzO e8 o with
                    | none => simp [e7, e9] at e4
                    | some p9 =>
                      obtain ⟨dz, ez⟩ := p9
                      simp only [e7, e9, Option.bind_some] at e4
                      refine ⟨F4, e'', fp4, o, e8, t4, e7, fun F5 H5 fp5 v s5 t5 o5 => ?_⟩
                      obtain ⟨F6, fp6, s6, t6, r6⟩ := frzO_go t5 o5 e9
                      obtain ⟨fp7, s7, t7⟩ := t6.wipe vs
                      rw [ew] at t7
                      obtain ⟨xs, a1, a2, a3, a4⟩ := ((ac4.step s5).step s6).step s7
                      have ll := lcL_len e4
                      rw [List.length_append, List.length_singleton, ← a2.length] at ll
                      have zl := z.line
                      have hD1 := hD
                      refine ⟨xs, a1, by omega, F6, fp7, ez, acc ++ [dz], (((st4.trans s5).trans s6).trans s7).aside hD, t7.aside a3 a4 (fun _ z => nomatch z), ⟨xs ++ [v], upd_same, a2.append (.cons r6 .nil), a3, a4⟩, e4⟩
        · have ei : i = ds.length := by omega
          subst ei
          rw [List.drop_length] at e4
          cases e4
          refine .inl ⟨wk.stops F' H' st.fz t'.sub, ?_⟩
          obtain ⟨fp5, s5, t5⟩ := Stt.back (σ := σ) (e0 := env1) vs t' fun v d e => by
            obtain ⟨x, h1, h2⟩ := saved v d e
            exact ⟨x, h1, h2.mono st.fz⟩
          rw [bkS_wipe] at t5
          obtain ⟨xs, a1, a2, a3, a4⟩ := ac.step s5
          have tz := t5.push (s := .own (.list out)) (v := .ref D) (f := [D]) (.own (d := .list out) ⟨xs, a1, a2⟩) (by simp) (fun a m => by rw [List.mem_singleton.mp m]; exact a4) (fun a m => by rw [List.mem_singleton.mp m]; exact a3)
          refine q F' H' _ _ (s1.trans ?_) tz
          have sz := st.trans s5
          exact ⟨sz.fz, sz.keep, sz.newF, fun b m => by
            rcases List.mem_append.mp m with m | m
            · rw [List.mem_singleton.mp m]; exact .inr hD
            · exact sz.newP b m⟩
theorem pts_none : PTs X [] (tB' X.K bTrue) := ⟨fun pins s σ H Q I w => pts_nil.run pins s σ H Q I (by
  obtain ⟨F, env, fp, b, env', t, e1, q⟩ := w
  cases e1
  exact q F H fp Step.refl t)⟩
theorem pv_lc {elt tg iter : Expr} {ifs : List Expr} {scope : Scope} {own : List (Str × Nat)} {pos : Pos} {s : EvI} {g : EvG} {c : EvB} {r : EvO} (hc : X.calm = true) (hN : X.N.Nodup) (hi : PI X tg iter (tI X.K s)) (ok : BlkOk X.N X.env.scope scope own)
    (hg : ∀ (s : Shared) (H : Hp) (C : Addr) (cl : List (Str × Addr)) (fp : List Addr), PG (X.blk s H scope (compEnvC scope cl C X.env) fp) tg (tG X.K (fun i => !(own.map (·.2)).contains i) g)) (ht : ∀ (s : Shared) (H : Hp) (C : Addr) (cl : List (Str × Addr)) (fp : List Addr), PTs (X.blk s H scope (compEnvC scope cl C X.env) fp) ifs (tB' X.K c))
    (he : ∀ (s : Shared) (H : Hp) (C : Addr) (cl : List (Str × Addr)) (fp : List Addr), PE (X.blk s H scope (compEnvC scope cl C X.env) fp) elt (tO X.K r)) (hs : ∀ x, foldedSetIterable iter X.env x = pure x := by intro _; rfl) :
    PE X (.ListComp elt [⟨tg, iter, ifs, 0⟩] scope pos) (tV X.K (vLc s g c r (own.map (·.2)))) := (pe_lc hc hN hi ok hg ht he hs).weak fun _ _ _ => vLc_imp
theorem sp_setLc {i : Nat} {y : Str} {py : Pos} {pn : Nat → Bool} {elt tg iter : Expr} {ifs : List Expr} {scope : Scope} {own : List (Str × Nat)} {pos spos : Pos} {s : EvI} {g : EvG} {c : EvB} {r : EvO} (hc : X.calm = true) (hN : X.N.Nodup) (hy : X.N[i]? = some y) (hyl : X.env.scope.names.lookup y = some .local)
    (hsw : swapsWith (.ListComp elt [⟨tg, iter, ifs, 0⟩] scope pos) (some (.Name y py)) spos.line X.env = pure true) (hi : PI X tg iter (tI X.K s)) (ok : BlkOk X.N X.env.scope scope own)
    (hg : ∀ (s : Shared) (H : Hp) (C : Addr) (cl : List (Str × Addr)) (fp : List Addr), PG (X.blk s H scope (compEnvC scope cl C X.env) fp) tg (tG X.K (fun i => !(own.map (·.2)).contains i) g)) (ht : ∀ (s : Shared) (H : Hp) (C : Addr) (cl : List (Str × Addr)) (fp : List Addr), PTs (X.blk s H scope (compEnvC scope cl C X.env) fp) ifs (tB' X.K c))
    (he : ∀ (s : Shared) (H : Hp) (C : Addr) (cl : List (Str × Addr)) (fp : List Addr), PE (X.blk s H scope (compEnvC scope cl C X.env) fp) elt (tO X.K r)) (hp : pn i = false := by rfl) (hs : ∀ x, foldedSetIterable iter X.env x = pure x := by intro _; rfl) :
    PS X (.Assign [.Name y py] (.ListComp elt [⟨tg, iter, ifs, 0⟩] scope pos) spos) (tS X.K pn (sSet i (vLc s g c r (own.map (·.2))))) := (ps_setLc hc hN hy hyl hsw hi ok hg ht he hs).weak fun D σ H h => by
  have h := sSet_imp hp h
  exact vLc_imp h
end
end Pf
/-! PfM: own lists and dicts changed. -/
namespace Pf
open L2 PyProof.Rows PySem PySem.Spec
section
variable {K : PySem.W.Frag} {F F' H H' : Hp} {env env' : List Slot} {σ : L2.St} {fp fp' : List Addr}
/-- an own thing rewritten -/
theorem Stt.mutate {i : Nat} {d : PyData} (t : Stt K F H env σ fp) (e : env[i]? = some (.own d)) : ∃ a, σ[i]? = some (some (.ref a)) ∧ OwnAt K F H a d ∧ a ∈ fp ∧ F a = none ∧
    ∀ (u : HO) (d' : PyData), (∀ xs, u ≠ .tup xs) → OwnAt K F (upd H a u) a d' → Stt K F (upd H a u) (env.set i (.own d')) σ fp ∧ Step F H fp F (upd H a u) fp := by
  obtain ⟨o, f, fa, fb, h1, h2, h3, h4⟩ := t.rel.at_ e
  cases h2 with
  | @own _ a h2 =>
    have am : a ∈ fp := by rw [h3]; simp
    have aF := t.out a am
    refine ⟨a, h1, h2, am, aF, fun u d' nt ow => ?_⟩
    have nab : ∀ b ∈ fa ++ fb, b ≠ a := by
      have nd := t.nd
      rw [h3] at nd
      have e1 : (fa ++ [a] ++ fb).Perm (a :: (fa ++ fb)) := by
        simpa using (List.perm_middle (a := a) (l₁ := fa) (l₂ := fb))
      have q := List.nodup_cons.mp (e1.nodup_iff.mp nd)
      exact fun b m z => q.1 (z ▸ m)
    have q := h4 (F' := F) (H' := upd H a u) (s' := .own d') (o' := some (.ref a)) (f' := [a]) (Same.refl _) (fun b m => upd_ne (nab b m)) (.own ow)
    rw [SR.set_o t.rel h1 rfl, ← h3] at q
    refine ⟨⟨fun b o e => ?_, q, t.nd, t.out, fun b xs e => ?_⟩, ⟨Same.refl _, fun b o e n => ?_, fun _ _ e => .inl e, fun b m => .inl m⟩⟩
    · rw [upd_ne (show b ≠ a from fun z => by subst z; rw [aF] at e; cases e)]; exact t.sub b o e
    · by_cases hb : b = a
      · subst hb; rw [upd_same] at e; exact absurd (Option.some.inj e) (nt xs)
      · rw [upd_ne hb] at e; exact t.tup b xs e
    · rw [upd_ne (show b ≠ a from fun z => n (z ▸ am))]; exact e
theorem Stt.ownV {i : Nat} {d : PyData} (t : Stt K F H env σ fp) (e : env[i]? = some (.own d)) : ∃ a, σ[i]? = some (some (.ref a)) ∧ OwnAt K F H a d := by
  obtain ⟨a, h1, h2, _⟩ := t.mutate e
  exact ⟨a, h1, h2⟩
end
/-- the own list in slot i -/
def ownL (env : Env1) (i : Nat) : Option (List PyData) := match env[i]? with
  | some (.own (.list ds)) => some ds
  | _ => none
theorem ownL_some {env : Env1} {i : Nat} {ds : List PyData} (h : ownL env i = some ds) : env[i]? = some (.own (.list ds)) := by
  unfold ownL at h
  split at h
  · rename_i e; cases h; exact e
  · cases h
theorem atI_ix {α : Type} {xs : List α} {i : Int} {x : α} (h : L2.atI xs i = some x) : ∃ j, ixN xs.length i = some j ∧ xs[j]? = some x := by
  unfold L2.atI at h
  cases e : ixN xs.length i with
  | none => rw [e] at h; cases h
  | some j => rw [e] at h; exact ⟨j, rfl, h⟩
/-- x.append(e) -/
noncomputable def vApp (i : Nat) (r : EvO) : EvV := fun env => (ownL env i).bind fun _ => (r env).bind fun p => (frzO p.2 p.1).bind fun q => (ownL q.2 i).bind fun ds => ifP (Fits (ds.length + 1)) (some (.val .none, q.2.set i (.own (.list (ds ++ [q.1])))))
/-- x.pop() -/
def vPop (i : Nat) : EvV := fun env => (ownL env i).bind fun ds => ds.getLast?.bind fun d => some (.val d, env.set i (.own (.list ds.dropLast)))
/-- x.pop(k) -/
noncomputable def vPopAt (i : Nat) (r : EvO) : EvV := fun env => (ownL env i).bind fun _ => (r env).bind fun p => (look p.2 p.1).bind fun k => (intOf k).bind fun k => (ownL p.2 i).bind fun ds => (ixN ds.length k).bind fun j => (ds[j]?).bind fun d => ifP (Fits ds.length) (some (.val d, p.2.set i (.own (.list (ds.eraseIdx j)))))
section
variable {X : Cx} {o e : Expr} {apos cpos : Pos}
theorem own_list {K : PySem.W.Frag} {F H : Hp} {a : Addr} {ds : List PyData} (h : OwnAt K F H a (.list ds)) : ∃ xs, H a = some (.lst xs) ∧ RelAll K F xs ds := h
theorem pv_app {i : Nat} {r : EvO} (ho : PE X o (tVar i)) (ha : PE X e (tO X.K r)) (hbase : attributeBase o "append" X.env (eval o X.env) = eval o X.env := by rfl)
    (hfew : ((backTo cpos (starEach [e] X.env)).all (fun x => !x.1) && (backToKw cpos (keywordEach [] X.env)).all (fun x => x.1.isSome) && decide (([e] : List Expr).length + ([] : List Keyword).length + (if ([] : List Keyword).isEmpty then 0 else 1) < 30)) = true := by rfl)
    (hline : (apos.endLine == cpos.line) = true := by rfl) (hs : starEach [e] X.env = (false, eval e X.env) :: starEach [] X.env := by rfl) (hplain : (backTo cpos (starEach [] X.env)).any (·.1) = false := by rfl) :
    PE X (.Call (.Attribute o "append" apos) [e] [] cpos) (tV X.K (vApp i r)) :=
  (pe_bm PySem.F.plainAttrs_list PySem.F.slot_list_append PySem.F.type_list_append mt_append ho (pa_cons ha pa_nil hs) hbase hfew hline hs hplain).weak fun σ H Q h => by
    obtain ⟨F, env, fp, s, env', t, e1, q⟩ := h
    unfold vApp at e1
    cases e2 : ownL env i with
    | none => rw [e2] at e1; cases e1
    | some ds0 =>
      cases e3 : r env with
      | none => simp [e2, e3] at e1
      | some p3 =>
        obtain ⟨o1, env1⟩ := p3
        cases e4 : frzO env1 o1 with
        | none => simp [e2, e3, e4] at e1
        | some p4 =>
          obtain ⟨d, env2⟩ := p4
          cases e5 : ownL env2 i with
          | none => simp [e2, e3, e4, e5] at e1
          | some ds =>
            simp only [e2, e3, e4, e5, Option.bind_some] at e1
            obtain ⟨z, e1⟩ := ifP_some e1
            cases e1
            obtain ⟨a, h1, h2⟩ := t.ownV (ownL_some e2)
            obtain ⟨xs0, h2, _⟩ := own_list h2
            refine ⟨_, h1, .inl ⟨rfl, xs0, .inl (.inl h2)⟩, F, env, fp, o1, env1, t, e3, fun F1 H1 fp1 v s1 t1 r1 => ?_⟩
            obtain ⟨F2, fp2, s2, t2, r2⟩ := frzO_go t1 r1 e4
            obtain ⟨a', g1, g2, _, _, g5⟩ := t2.mutate (ownL_some e5)
            rw [h1] at g1; cases g1
            obtain ⟨xs, g2, g3⟩ := own_list g2
            obtain ⟨t3, s3⟩ := g5 (.lst (xs ++ [v])) (.list (ds ++ [d])) (fun _ z => nomatch z) ⟨xs ++ [v], upd_same, g3.append (.cons r2 .nil)⟩
            have zl := z.line
            exact ⟨a, xs, v, rfl, rfl, g2, by rw [g3.length]; omega, q F2 _ fp2 .non ((s1.trans s2).trans s3) (t3.pushV .non)⟩
theorem pv_pop {i : Nat} (ho : PE X o (tVar i)) (hbase : attributeBase o "pop" X.env (eval o X.env) = eval o X.env := by rfl) (hline : (apos.endLine == cpos.line) = true := by rfl) : PE X (.Call (.Attribute o "pop" apos) [] [] cpos) (tV X.K (vPop i)) :=
  (pe_bm0 PySem.F.plainAttrs_list PySem.F.slot_list_pop PySem.F.type_list_pop mt_pop ho hbase hline).weak fun σ H Q h => by
    obtain ⟨F, env, fp, s, env', t, e1, q⟩ := h
    unfold vPop at e1
    cases e2 : ownL env i with
    | none => rw [e2] at e1; cases e1
    | some ds =>
      cases e3 : ds.getLast? with
      | none => simp [e2, e3] at e1
      | some d =>
        simp [e2, e3] at e1
        obtain ⟨rfl, rfl⟩ := e1
        obtain ⟨a', g1, g2, _, _, g5⟩ := t.mutate (ownL_some e2)
        obtain ⟨xs, g2, g3⟩ := own_list g2
        rw [List.getLast?_eq_getElem?, ← g3.length] at e3
        obtain ⟨v, g6, g7⟩ := g3.get e3
        obtain ⟨t3, s3⟩ := g5 (.lst xs.dropLast) (.list ds.dropLast) (fun _ z => nomatch z) ⟨xs.dropLast, upd_same, g3.dropLast⟩
        exact ⟨_, g1, .inl ⟨rfl, xs, .inl (.inl g2)⟩, a', xs, v, rfl, rfl, g2, g6, q F _ fp v s3 (t3.pushV g7)⟩
theorem pv_popAt {i : Nat} {r : EvO} (ho : PE X o (tVar i)) (ha : PE X e (tO X.K r)) (hbase : attributeBase o "pop" X.env (eval o X.env) = eval o X.env := by rfl)
    (hfew : ((backTo cpos (starEach [e] X.env)).all (fun x => !x.1) && (backToKw cpos (keywordEach [] X.env)).all (fun x => x.1.isSome) && decide (([e] : List Expr).length + ([] : List Keyword).length + (if ([] : List Keyword).isEmpty then 0 else 1) < 30)) = true := by rfl)
    (hline : (apos.endLine == cpos.line) = true := by rfl) (hs : starEach [e] X.env = (false, eval e X.env) :: starEach [] X.env := by rfl) (hplain : (backTo cpos (starEach [] X.env)).any (·.1) = false := by rfl) :
    PE X (.Call (.Attribute o "pop" apos) [e] [] cpos) (tV X.K (vPopAt i r)) :=
  (pe_bm PySem.F.plainAttrs_list PySem.F.slot_list_pop PySem.F.type_list_pop mt_popAt ho (pa_cons ha pa_nil hs) hbase hfew hline hs hplain).weak fun σ H Q h => by
    obtain ⟨F, env, fp, s, env', t, e1, q⟩ := h
    unfold vPopAt at e1
    cases e2 : ownL env i with
    | none => rw [e2] at e1; cases e1
    | some ds0 =>
      cases e3 : r env with
      | none => simp [e2, e3] at e1
      | some p3 =>
        obtain ⟨o1, env1⟩ := p3
        cases e4 : look env1 o1 with
        | none => simp [e2, e3, e4] at e1
        | some kd =>
          cases e4' : intOf kd with
          | none => simp [e2, e3, e4, e4'] at e1
          | some k =>
            cases intOf_some e4'
            cases e5 : ownL env1 i with
            | none => simp [e2, e3, e4, e4', e5] at e1
            | some ds =>
              cases e6 : ixN ds.length k with
              | none => simp [e2, e3, e4, e4', e5, e6] at e1
              | some j =>
                cases e7 : ds[j]? with
                | none => simp [e2, e3, e4, e4', e5, e6, e7] at e1
                | some d =>
                  simp only [e2, e3, e4, e4', e5, e6, e7, Option.bind_some] at e1
                  obtain ⟨z, e1⟩ := ifP_some e1
                  cases e1
                  obtain ⟨a, h1, h2⟩ := t.ownV (ownL_some e2)
                  obtain ⟨xs0, h2, _⟩ := own_list h2
                  refine ⟨_, h1, .inl ⟨rfl, xs0, .inl (.inl h2)⟩, F, env, fp, o1, _, t, e3, fun F1 H1 fp1 v s1 t1 r1 => ?_⟩
                  have hv := (look_rel t1 r1 e4).int
                  subst hv
                  obtain ⟨a', g1, g2, _, _, g5⟩ := t1.mutate (ownL_some e5)
                  rw [h1] at g1; cases g1
                  obtain ⟨xs, g2, g3⟩ := own_list g2
                  obtain ⟨y, g6, g7⟩ := g3.get e7
                  obtain ⟨t3, s3⟩ := g5 (.lst (xs.eraseIdx j)) (.list (ds.eraseIdx j)) (fun _ z => nomatch z) ⟨xs.eraseIdx j, upd_same, g3.erase j⟩
                  obtain ⟨w1, w2, w3, w4⟩ := ixN_seq e6
                  have zf : ds.length ≤ 16777216 := z
                  exact ⟨a, xs, k, j, y, rfl, rfl, g2, by omega, by omega, by rw [g3.length]; exact w1, g6, q F1 _ fp1 y (s1.trans s3) (t3.pushV g7)⟩
end
/-! ### x[k] = e -/
/-- what an own thing is behind the store -/
noncomputable def putD : PyData → PyData → PyData → Option PyData
  | .list ds, .int k, d => (ixN ds.length k).bind fun j => some (.list (ds.set j d))
  | .dict kvs, k, d => ifP (OneKind kvs k ∧ Fits (kvs.length + 1)) (some (.dict (dput kvs k d)))
  | _, _, _ => none
def ownD (env : Env1) (i : Nat) : Option PyData := match env[i]? with
  | some (.own d) => some d
  | _ => none
theorem ownD_some {env : Env1} {i : Nat} {ds : PyData} (h : ownD env i = some ds) : env[i]? = some (.own ds) := by
  unfold ownD at h
  split at h
  · rename_i e; cases h; exact e
  · cases h
noncomputable def sPut (i : Nat) (rk rv : EvO) : EvS := fun env => (rv env).bind fun p => (rk p.2).bind fun p' => (frzO p'.2 p.1).bind fun q => (look q.2 p'.1).bind fun k => (ownD q.2 i).bind fun d => (putD d k q.1).bind fun d' => if (ownD env i).isSome then some (.nx (q.2.set i (.own d'))) else none
/-- a store in a dict, an empty one of either kind -/
def DPutX (H : Hp) (a : Addr) (y v : V) (H' : Hp) : Prop := DPut H a y v H' ∨ (H a = some (.dK []) ∧ DPut (upd H a (.dT [])) a y v H') ∨ (H a = some (.dT []) ∧ DPut (upd H a (.dK [])) a y v H')
section
variable {X : Cx} {o k e : Expr} {pos pos' : Pos} {pn : Nat → Bool}
theorem PS.pick {st : Stmt} {t' : TS} (i : ∀ D σ H, t' D σ H → ∃ t, PS X st t ∧ t D σ H) : PS X st t' := ⟨fun pins s σ H D I w => by
  obtain ⟨t, h, q⟩ := i _ _ _ w
  exact h.run pins s σ H D I q⟩
theorem ps_dputX {td ty tv : TE} (hu : X.A.units + 1 < cLine) (ho : PE X o td) (hi : PE X k ty) (hv : PE X e tv) (hs : swapsWith e (some (.Subscript o k pos')) pos.line X.env = pure false) :
    PS X (.Assign [.Subscript o k pos'] e pos) (fun D σ H => tv σ H fun v H1 => td σ H1 fun x H2 => ty σ H2 fun y H3 => ∃ a H4, x = .ref a ∧ DPutX H3 a y v H4 ∧ D.nx σ H4) := by
  refine ⟨fun pins s σ H D I h => ?_⟩
  refine wpAny_Assign_Subscript (thn (hv.run pins s σ H _ I h) fun r s1 ⟨v, H1, I1, rv, q1⟩ => thn (ho.run pins s1 σ H1 _ I1 q1) fun u s2 ⟨x, H2, I2, rx, q2⟩ => thn (hi.run pins s2 σ H2 _ I2 q2) fun iv s3 ⟨y, H3, I3, ry, a, H4, ex, g, q3⟩ => ?_) hs
  subst ex
  obtain rfl : u = Value.ref a := rx
  rcases g with g | ⟨e, g⟩ | ⟨e, g⟩
  · exact d_setItem hu I3 g ry rv fun s4 I4 => ⟨σ, H4, I4, q3⟩
  · exact d_setItem hu (inv_dT I3 e) g ry rv fun s4 I4 => ⟨σ, H4, I4, q3⟩
  · exact d_setItem hu (inv_dK I3 e) g ry rv fun s4 I4 => ⟨σ, H4, I4, q3⟩
/-- the heap behind the store, as the data say -/
theorem putX {K : PySem.W.Frag} {F H : Hp} {a : Addr} {kvs : List (PyData × PyData)} {dk dv : PyData} {y v : V} (s : Same F H) (ow : OwnAt K F H a (.dict kvs)) (ry : RelB K F H y dk) (rv : Rel K F v dv) (ok : OneKind kvs dk) (z : Fits (kvs.length + 1)) :
    ∃ u, DPutX H a y v (upd H a u) ∧ (∀ xs, u ≠ .tup xs) ∧ OwnAt K F (upd H a u) a (.dict (dput kvs dk dv)) := by
  have zl := z.line
  rcases ok.2 with ⟨hall, kz, hkz⟩ | ⟨hall, kz, hkz⟩
  · have dk1 : dk = encK kz := by
      generalize hz : (Sum.inl kz : Key ⊕ List Key) = zz at hkz
      cases hkz with
      | one k' => cases hz; rfl
      | row _ => cases hz
    have ey : y = kV kz := by
      subst dk1
      cases kz with
      | inl i => exact RelB.int ry
      | inr i => exact RelB.str ry
    rcases ow with ⟨ks, h1, h2⟩ | ⟨ks, h1, h2⟩
    · exact ⟨.dK (putK ks kz v), .inl (.inl ⟨ks, kz, h1, ey, by rw [h2.length]; omega, rfl⟩), (fun _ e => nomatch e), .inl ⟨_, upd_same, by rw [dk1]; exact h2.put rv kz⟩⟩
    · cases h2 with
      | nil =>
        refine ⟨.dK (putK [] kz v), .inr (.inr ⟨h1, .inl ⟨[], kz, upd_same, ey, by rw [sizeLine_eq]; decide, ?_⟩⟩), (fun _ e => nomatch e), .inl ⟨_, upd_same, by rw [dk1]; exact (RelK.nil : RelK K F [] []).put rv kz⟩⟩
        funext b
        unfold upd
        by_cases hb : b = a
        · rw [if_pos hb, if_pos hb]
        · rw [if_neg hb, if_neg hb, if_neg hb]
      | @cons k0 v0 ks0 d0 ds0 h0 r0 =>
        obtain ⟨k', hk'⟩ := hall _ List.mem_cons_self
        exact (hk'.apart (.row k0)).elim
  · have dk1 : dk = encKs kz := by
      generalize hz : (Sum.inr kz : Key ⊕ List Key) = zz at hkz
      cases hkz with
      | one k' => cases hz
      | row _ => cases hz; rfl
    subst dk1
    obtain ⟨b, xs, rfl, hb, rx⟩ := ry.tup
    have ex := keys_rel rx
    subst ex
    have hb := s _ _ hb
    rcases ow with ⟨ks, h1, h2⟩ | ⟨ks, h1, h2⟩
    · cases h2 with
      | nil =>
        have nb : b ≠ a := fun e => by
          subst e
          rw [h1] at hb
          cases hb
        refine ⟨.dT (putK [] kz v), .inr (.inl ⟨h1, .inr ⟨[], kz, b, upd_same, rfl, by rw [upd_ne nb]; exact hb, by rw [sizeLine_eq]; decide, ?_⟩⟩), (fun _ e => nomatch e), .inr ⟨_, upd_same, (RelT.nil : RelT K F [] []).put rv kz⟩⟩
        funext c
        unfold upd
        by_cases hc : c = a
        · rw [if_pos hc, if_pos hc]
        · rw [if_neg hc, if_neg hc, if_neg hc]
      | @cons k0 v0 ks0 d0 ds0 h0 r0 =>
        obtain ⟨k', hk'⟩ := hall _ List.mem_cons_self
        exact ((IsKey.one k0).apart hk').elim
    · exact ⟨.dT (putK ks kz v), .inl (.inr ⟨ks, kz, b, h1, rfl, hb, by rw [h2.length]; omega, rfl⟩), (fun _ e => nomatch e), .inr ⟨_, upd_same, h2.put rv kz⟩⟩
theorem sp_put {i : Nat} {rk rv : EvO} (hu : X.A.units + 1 < cLine) (ho : PE X o (tVar i)) (hk : PE X k (tO X.K rk)) (hv : PE X e (tO X.K rv)) (hs : swapsWith e (some (.Subscript o k pos')) pos.line X.env = pure false := by rfl)
    (hs1 : swapsWithSole [.Subscript o k pos'] e pos.line X.env = pure false := by rfl) (hw : swappedStores [.Subscript o k pos'] e X.env = pure none := by rfl) (h1 : (assignEach [.Subscript o k pos'] X.env).map (·.2) = [assign (.Subscript o k pos') X.env] := by rfl)
    (ha : ∀ v, assign (.Subscript o k pos') X.env v = (do
      let ov ← holding [v] (eval o X.env)
      let iv ← holding [v, ov] (eval k X.env)
      standAt pos'
      holding [v, ov, iv] (setItem ov iv v)
      release [v, ov, iv] []) := by intro _; rfl) :
    PS X (.Assign [.Subscript o k pos'] e pos) (tS X.K pn (sPut i rk rv)) := PS.pick fun D σ H h => by
  obtain ⟨F, env, fp, fl, t, e1, w⟩ := h
  unfold sPut at e1
  cases e2 : rv env with
  | none => rw [e2] at e1; cases e1
  | some p2 =>
    obtain ⟨ov, env1⟩ := p2
    cases e3 : rk env1 with
    | none => simp [e2, e3] at e1
    | some p3 =>
      obtain ⟨ok, env2⟩ := p3
      cases e4 : frzO env2 ov with
      | none => simp [e2, e3, e4] at e1
      | some p4 =>
        obtain ⟨dv, env3⟩ := p4
        cases e5 : look env3 ok with
        | none => simp [e2, e3, e4, e5] at e1
        | some dk =>
          cases e6 : ownD env3 i with
          | none => simp [e2, e3, e4, e5, e6] at e1
          | some d =>
            cases e7 : putD d dk dv with
            | none => simp [e2, e3, e4, e5, e6, e7] at e1
            | some d' =>
              simp only [e2, e3, e4, e5, e6, e7, Option.bind_some] at e1
              cases e8 : ownD env i with
              | none => rw [e8] at e1; cases e1
              | some d0 =>
                rw [e8] at e1
                cases e1
                have go : ∀ {R : V → V → V → Hp → Prop}, (∀ F2 H2 fp2 a y v, Step F H fp F2 H2 fp2 → Stt X.K F2 H2 env3 σ fp2 → σ[i]? = some (some (.ref a)) → RelB X.K F2 H2 y dk → Rel X.K F2 v dv → R v (.ref a) y H2) →
                    tO X.K rv σ H fun v H1 => tVar i σ H1 fun x H2 => tO X.K rk σ H2 fun y H3 => R v x y H3 := fun {R} q => by
                  refine ⟨F, env, fp, ov, env1, t, e2, fun F1 H1 fp1 v s1 t1 o1 => ?_⟩
                  obtain ⟨a, g1, g2⟩ := t.ownV (ownD_some e8)
                  refine ⟨_, g1, F1, env1, fp1, ok, env2, t1, e3, fun F2 H2 fp2 y s2 t2 o2 => ?_⟩
                  obtain ⟨F3, fp3, s3, t3, r3⟩ := frzO_go t2 (o1.mono s2.fz) e4
                  exact q F3 H2 fp3 a y v ((s1.trans s2).trans s3) t3 g1 (look_rel t3 (o2.mono s3.fz) e5) r3
                cases d with
                | list ds =>
                  cases dk with
                  | int kk =>
                    have e7 : ((ixN ds.length kk).bind fun j => some (PyData.list (ds.set j dv))) = some d' := e7
                    cases e9 : ixN ds.length kk with
                    | none => rw [e9] at e7; cases e7
                    | some j =>
                      rw [e9] at e7
                      cases e7
                      refine ⟨_, ps_asg hv (pg_sub ho hk set_list ha) hs1 hw h1, ?_⟩
                      refine go (R := fun v x y H3 => rSetL x y v H3 fun H4 => D.nx σ H4) fun F2 H2 fp2 a y v s2 t2 g1 ry rv' => ?_
                      obtain ⟨a', g1', g2, _, _, g5⟩ := t2.mutate (ownD_some e6)
                      rw [g1] at g1'; cases g1'
                      obtain ⟨xs, g2, g3⟩ := own_list g2
                      obtain ⟨t3, s3⟩ := g5 (.lst (xs.set j v)) (.list (ds.set j dv)) (fun _ z => nomatch z) ⟨_, upd_same, g3.set j rv'⟩
                      exact ⟨a, xs, kk, j, rfl, ry.int, g2, by rw [g3.length]; exact e9, w σ F2 _ fp2 Pin.refl (s2.trans s3) t3⟩
                  | none => cases e7
                  | bool _ => cases e7
                  | str _ => cases e7
                  | list _ => cases e7
                  | tuple _ => cases e7
                  | dict _ => cases e7
                | dict kvs =>
                  have e7 : ifP (OneKind kvs dk ∧ Fits (kvs.length + 1)) (some (PyData.dict (dput kvs dk dv))) = some d' := by
                    cases dk <;> exact e7
                  obtain ⟨⟨ok1, z⟩, e7⟩ := ifP_some e7
                  cases e7
                  refine ⟨_, ps_dputX hu ho hk hv hs, ?_⟩
                  refine go (R := fun v x y H3 => ∃ a H4, x = .ref a ∧ DPutX H3 a y v H4 ∧ D.nx σ H4) fun F2 H2 fp2 a y v s2 t2 g1 ry rv' => ?_
                  obtain ⟨a', g1', g2, _, _, g5⟩ := t2.mutate (ownD_some e6)
                  rw [g1] at g1'; cases g1'
                  obtain ⟨u, p1, p2, p3⟩ := putX t2.sub g2 ry rv' ok1 z
                  obtain ⟨t3, s3⟩ := g5 u _ p2 p3
                  exact ⟨a, _, rfl, p1, w σ F2 _ fp2 Pin.refl (s2.trans s3) t3⟩
                | none => cases e7
                | bool _ => cases e7
                | int _ => cases e7
                | str _ => cases e7
                | tuple _ => cases e7
end
end Pf
/-! PfN: defs and calls. -/
namespace Pf
open L2 PyProof.Rows PySem PySem.Spec
/-! ### rows by a mask: true, by reference -/
def selT {α : Type} : List Bool → List α → List α
  | true :: m, x :: xs => x :: selT m xs
  | false :: m, _ :: xs => selT m xs
  | _, _ => []
def selF {α : Type} : List Bool → List α → List α
  | true :: m, _ :: xs => selF m xs
  | false :: m, x :: xs => x :: selF m xs
  | _, _ => []
def mrg {α : Type} : List Bool → List α → List α → List α
  | true :: m, t :: ts, fs => t :: mrg m ts fs
  | false :: m, ts, f :: fs => f :: mrg m ts fs
  | _, _, _ => []
theorem mrg_sel {α : Type} : ∀ (m : List Bool) (xs : List α), m.length = xs.length → mrg m (selT m xs) (selF m xs) = xs
  | [], [], _ => rfl
  | [], _ :: _, h => by simp at h
  | _ :: _, [], h => by simp at h
  | true :: m, x :: xs, h => by
    show x :: mrg m (selT m xs) (selF m xs) = _
    rw [mrg_sel m xs (by simpa using h)]
  | false :: m, x :: xs, h => by
    show x :: mrg m (selT m xs) (selF m xs) = _
    rw [mrg_sel m xs (by simpa using h)]
theorem selT_map {α β : Type} (f : α → β) : ∀ (m : List Bool) (xs : List α), selT m (xs.map f) = (selT m xs).map f
  | [], [] => rfl
  | [], _ :: _ => rfl
  | true :: _, [] => rfl
  | false :: _, [] => rfl
  | true :: m, x :: xs => by
    show f x :: selT m (xs.map f) = _
    rw [selT_map f m xs]; rfl
  | false :: m, x :: xs => by
    show selT m (xs.map f) = _
    rw [selT_map f m xs]; rfl
/-- what a def gives back: the slots that came by reference -/
def selS : List Bool → List Slot → List Slot
  | true :: m, s :: e => s :: selS m e
  | false :: m, _ :: e => .no :: selS m e
  | _, _ => []
section
variable {K : PySem.W.Frag} {F F' H H' : Hp} {env env' : List Slot} {σ σ' : L2.St} {fp fp' : List Addr} {s : Slot}
theorem SR.sel : ∀ {m : List Bool} {vs : List V} {env : List Slot} {σ : L2.St} {fp : List Addr}, SR K F H env σ fp → m.length = vs.length → vs.length ≤ env.length → (∀ i, m.getD i false = true → σ[i]? = (vs.map some)[i]?) →
    ∃ fp', fp'.Sublist fp ∧ SR K F H (selS m env) (vs.map some) fp'
  | [], [], env, σ, fp, h, _, _, _ => ⟨[], List.nil_sublist _, by cases env <;> exact .nil⟩
  | [], _ :: _, _, _, _, _, h, _, _ => by simp at h
  | _ :: _, [], _, _, _, _, h, _, _ => by simp at h
  | b :: m, v :: vs, [], σ, fp, h, _, l, _ => by simp at l
  | b :: m, v :: vs, s :: env, _, _, .cons (o := o) (σ := σ) (f := f) (fp := fp) h r, hl, l, hp => by
    obtain ⟨fp', h1, h2⟩ := SR.sel (m := m) (vs := vs) r (by simpa using hl) (by simpa using l) fun i e => by simpa using hp (i + 1) (by simpa using e)
    cases b with
    | false => exact ⟨fp', h1.trans (List.sublist_append_right _ _), .cons (f := []) .no h2⟩
    | true =>
      have e := hp 0 (by simp)
      simp at e
      subst e
      exact ⟨f ++ fp', List.Sublist.append (List.Sublist.refl _) h1, .cons h h2⟩
theorem Stt.sub_fp {env' : List Slot} {σ' : L2.St} (t : Stt K F H env σ fp) (h : SR K F H env' σ' fp') (s : fp'.Sublist fp) : Stt K F H env' σ' fp' := ⟨t.sub, h, t.nd.sublist s, fun a m => t.out a (s.subset m), t.tup⟩
theorem Step.sub_fp (s : fp'.Sublist fp) : Step F H fp F H fp' := ⟨Same.refl _, fun _ _ h _ => h, fun _ _ h => .inl h, fun b m => .inl (s.subset m)⟩
theorem SR.nos : ∀ n : Nat, SR K F H (List.replicate n .no) (List.replicate n none) []
  | 0 => .nil
  | n + 1 => .cons (f := []) .no (SR.nos n)
end
/-! ### a def's promise -/
abbrev EvF := List Slot → Option (Slot × List Slot)
def spOf (K : PySem.W.Frag) (n : Nat) (G : EvF) : Sp := fun vs H Q _ => vs.length = n ∧ ∃ F args fp s outs, Stt K F H args (vs.map some) fp ∧ G args = some (s, outs) ∧
  ∀ F' H' fp' v, Step F H fp F' H' fp' → Stt K F' H' (s :: outs) (some v :: vs.map some) fp' → Q v H'
def pnOf (m : List Bool) : Nat → Bool := fun i => m.getD i false
def outOf (m : List Bool) : Fl → Option (Slot × List Slot)
  | .rt s e => some (s, selS m e)
  | .nx e => some (.val .none, selS m e)
  | _ => none
def defE (n : Nat) (m : List Bool) (body : EvS) : EvF := fun args => (body (args ++ List.replicate (n - args.length) .no)).bind (outOf m)
section
variable {P : Program} {w : World} {K : PySem.W.Frag} {mg : Str → Option Value} {base : Heap}
theorem Stt.sel {F H : Hp} {env : List Slot} {σ : L2.St} {fp : List Addr} {s : Slot} {v : V} {m : List Bool} {vs : List V} (t : Stt K F H (s :: env) (some v :: σ) fp) (hm : m.length = vs.length) (hl : vs.length ≤ env.length) (hp : ∀ i, m.getD i false = true → σ[i]? = (vs.map some)[i]?) :
    ∃ fp', Step F H fp F H fp' ∧ Stt K F H (s :: selS m env) (some v :: vs.map some) fp' := by
  obtain ⟨sub, rel, nd, out, tp⟩ := t
  cases rel with
  | @cons _ _ _ _ f fp1 h r =>
    obtain ⟨fp2, h1, h2⟩ := SR.sel r hm hl hp
    have sl : (f ++ fp2).Sublist (f ++ fp1) := List.Sublist.append (List.Sublist.refl _) h1
    exact ⟨f ++ fp2, Step.sub_fp sl, ⟨sub, .cons h h2, nd.sublist sl, fun a m => out a (sl.subset m), tp⟩⟩
theorem def_imp {ps N : List Str} {m : List Bool} {body : EvS} {vs : List V} {H : Hp} {Q : VK} {E : XK} (hm : m.length = ps.length) (hN : ps.length ≤ N.length) (h : spOf K ps.length (defE N.length m body) vs H Q E) :
    tS K (pnOf m) body { nx := fun _ H' => Q .non H', rt := Q } (L2.start N vs) H := by
  obtain ⟨hl, F, args, fp, s, outs, t, e, q⟩ := h
  have la : args.length = vs.length := by have := t.len; simpa using this
  unfold defE at e
  cases e1 : body (args ++ List.replicate (N.length - args.length) .no) with
  | none => rw [e1] at e; cases e
  | some fl =>
    rw [e1] at e
    have e : outOf m fl = some (s, outs) := e
    have t0 : Stt K F H (args ++ List.replicate (N.length - args.length) .no) (L2.start N vs) fp := by
      have q0 := t.rel.app (SR.nos (K := K) (F := F) (H := H) (N.length - args.length))
      rw [List.append_nil, la] at q0
      rw [la]
      exact ⟨t.sub, q0, t.nd, t.out, t.tup⟩
    have len0 : (L2.start N vs).length = N.length := by
      unfold L2.start
      rw [List.length_append, List.length_map, List.length_replicate]
      omega
    -- behind the body
    have fin : ∀ {σ' : L2.St} {F' H' : Hp} {fp' : List Addr} {v : V} {sl : Slot} {en : List Slot}, Pin (pnOf m) (L2.start N vs) σ' → Step F H fp F' H' fp' → Stt K F' H' (sl :: en) (some v :: σ') fp' → sl = s → selS m en = outs → Q v H' := fun {σ' F' H' fp' v sl en} pp st t' e1 e2 => by
      subst e1
      have le : en.length = N.length := by
        have := t'.len
        simp only [List.length_cons] at this
        rw [← len0, ← pp.1]
        omega
      obtain ⟨fp2, s2, t2⟩ := t'.sel (m := m) (vs := vs) (by omega) (by omega) fun i hi => by
        rw [pp.2 i hi]
        unfold L2.start
        have : i < m.length := by
          by_cases h : i < m.length
          · exact h
          · rw [List.getD_eq_getElem?_getD, List.getElem?_eq_none (by omega)] at hi
            cases hi
        rw [List.getElem?_append_left (by rw [List.length_map]; omega)]
      rw [e2] at t2
      exact q F' H' fp2 v (st.trans s2) t2
    refine ⟨F, _, fp, fl, t0, e1, ?_⟩
    cases fl with
    | rt sl en =>
      obtain ⟨rfl, rfl⟩ := (Prod.mk.inj (Option.some.inj e))
      exact fun σ' F' H' fp' v pp st t' => fin pp st t' rfl rfl
    | nx en =>
      obtain ⟨rfl, rfl⟩ := (Prod.mk.inj (Option.some.inj e))
      exact fun σ' F' H' fp' pp st t' => fin pp st (t'.pushV .non) rfl rfl
    | bk en => cases e
    | ct en => cases e
theorem def_ok {x qual : Str} {st : Stmt} {f : Addr} {fd : FuncData} {N ps : List Str} {k : Nat} {m : List Bool} {body : EvS} (F : Fun K x qual st f fd) (S : FnScope N ps (defScope st)) (hm : m.length = ps.length)
    (h : ∀ (cdv : Value) (A : Around) (outer : List Env) (s : Shared) (H : Hp) (E : XK), Room k (A.deeper (envOfC qual (defScope st) s.heap.objs.size f cdv)) → PSs (cxOf CX0 P w K mg base N qual (defScope st) f cdv A outer s H E).nox (defBody st) (tS K (pnOf m) body)) :
    FnOk P w K mg base CX0 (k + 1) f fd ps (spOf K ps.length (defE N.length m body)) := by
  refine F.ok S (fun vs H Q E h => h.1) (fun cdv A outer s H vs Q E hr hs => ⟨_, h cdv A outer s H E hr, def_imp hm ?_ hs⟩)
  have := congrArg List.length S.pre
  rw [List.length_take] at this
  omega
end
/-! ### calls -/
/-- the slots that go by reference are taken out -/
def takeR : List Opd → Env1 → Option (List Slot × Env1)
  | [], env => some ([], env)
  | .nam i :: os, env => (takeR os env).bind fun p => (p.2[i]?).bind fun s => if known s then some (s :: p.1, p.2.set i .no) else none
  | .dat _ :: _, _ => none
/-- and put back -/
def putR : List Opd → List Slot → Env1 → Option Env1
  | [], [], env => some env
  | .nam i :: os, t :: ts, env => match env[i]? with
    | some .no => putR os ts (env.set i t)
    | _ => none
  | _, _, _ => none
/-- a frozen operand -/
def lookV (env : Env1) : Opd → Option PyData
  | .dat d => some d
  | .nam i => match env[i]? with
    | some (.val d) => some d
    | _ => none
def lookVs (env : Env1) : List Opd → Option (List PyData)
  | [] => some []
  | o :: os => (lookV env o).bind fun d => (lookVs env os).bind fun ds => some (d :: ds)
def safe : Slot → Bool
  | .no => true
  | .val d => imm d
  | .own (.list ds) => imms ds
  | .own (.dict kvs) => kvs.all fun p => imm p.2
  | .own _ => true
  | .deal _ _ => true
/-- a call; val operands frozen ahead -/
def callF (m : List Bool) (G : EvF) (rs : EvOs) : EvV := fun env => (rs env).bind fun p => (frzOs p.2 (selF m p.1)).bind fun z => (takeR (selT m p.1) z.2).bind fun t => (lookVs t.2 (selF m p.1)).bind fun ds =>
  if m.length = p.1.length then (G (mrg m t.1 (ds.map .val))).bind fun r => (putR (selT m p.1) (selT m r.2) t.2).bind fun e => some (r.1, e) else none
/-- a call; val operands lent -/
def callB (m : List Bool) (G : EvF) (rs : EvOs) : EvV := fun env => (rs env).bind fun p => (takeR (selT m p.1) p.2).bind fun t => (looks t.2 (selF m p.1)).bind fun ds =>
  if m.length = p.1.length then (G (mrg m t.1 (ds.map .val))).bind fun r => if safe r.1 && (selT m r.2).all safe then (putR (selT m p.1) (selT m r.2) t.2).bind fun e => some (r.1, e) else none else none
section
variable {K : PySem.W.Frag} {F F' H H' : Hp} {env env' : List Slot} {σ σ' : L2.St} {fp fp' : List Addr} {s : Slot}
theorem OpdsR.selT {os : List Opd} {vs : List V} (h : OpdsR K F σ os vs) : ∀ (m : List Bool), OpdsR K F σ (selT m os) (selT m vs) := by
  induction h with
  | nil => intro m; cases m with
    | nil => exact .nil
    | cons b m => cases b <;> exact .nil
  | cons h _ ih => intro m; cases m with
    | nil => exact .nil
    | cons b m => cases b with
      | true => exact .cons h (ih m)
      | false => exact ih m
theorem OpdsR.selF {os : List Opd} {vs : List V} (h : OpdsR K F σ os vs) : ∀ (m : List Bool), OpdsR K F σ (selF m os) (selF m vs) := by
  induction h with
  | nil => intro m; cases m with
    | nil => exact .nil
    | cons b m => cases b <;> exact .nil
  | cons h _ ih => intro m; cases m with
    | nil => exact .nil
    | cons b m => cases b with
      | true => exact ih m
      | false => exact .cons h (ih m)
theorem OpdsR.length {os : List Opd} {vs : List V} (h : OpdsR K F σ os vs) : os.length = vs.length := by
  induction h with
  | nil => rfl
  | cons _ _ ih => rw [List.length_cons, List.length_cons, ih]
theorem takeR_go : ∀ {os : List Opd} {vs : List V} {ts : List Slot} {env' : Env1}, Stt K F H env σ fp → OpdsR K F σ os vs → takeR os env = some (ts, env') → ∃ fp', fp'.Perm fp ∧ Stt K F H (ts ++ env') (vs.map some ++ σ) fp'
  | [], _, _, _, t, .nil, e => by cases e; exact ⟨fp, List.Perm.refl _, t⟩
  | .dat _ :: _, _, _, _, _, .cons _ _, e => by cases e
  | .nam i :: os, _, ts, env', t, .cons (v := v) (vs := vs) h r, e => by
    unfold takeR at e
    cases e1 : takeR os env with
    | none => rw [e1] at e; cases e
    | some p =>
      obtain ⟨ts1, env1⟩ := p
      obtain ⟨fp1, pm1, t1⟩ := takeR_go t r e1
      rw [e1] at e
      cases e2 : env1[i]? with
      | none => simp [e2] at e
      | some s =>
        simp only [e2, Option.bind_some] at e
        split at e
        · cases e
          have hl := t1.len
          have lt : ts1.length = vs.length := by
            have l0 := t.len
            have : ∀ {os : List Opd} {ts : List Slot} {e0 e' : Env1}, takeR os e0 = some (ts, e') → ts.length = os.length := by
              intro os
              induction os with
              | nil => intro ts e0 e' h; cases h; rfl
              | cons o os ih =>
                intro ts e0 e' h
                cases o with
                | dat _ => cases h
                | nam j =>
                  unfold takeR at h
                  cases h1 : takeR os e0 with
                  | none => rw [h1] at h; cases h
                  | some p =>
                    rw [h1] at h
                    cases h2 : p.2[j]? with
                    | none => simp [h2] at h
                    | some s =>
                      simp only [h2, Option.bind_some] at h
                      split at h
                      · cases h
                        rw [List.length_cons, List.length_cons, ih h1]
                      · cases h
            rw [this e1, r.length]
          have e3 : (ts1 ++ env1)[ts1.length + i]? = some s := by
            rw [List.getElem?_append_right (by omega), Nat.add_sub_cancel_left]; exact e2
          obtain ⟨o, fp2, g1, pm2, t2⟩ := t1.take e3
          rw [List.getElem?_append_right (by rw [List.length_map]; omega), List.length_map, lt, Nat.add_sub_cancel_left] at g1
          have h : σ[i]? = some (some v) := h
          rw [h] at g1; cases g1
          refine ⟨fp2, pm2.trans pm1, ?_⟩
          rw [List.set_append_right _ _ (by omega), Nat.add_sub_cancel_left] at t2
          exact t2
        · cases e
theorem putR_go : ∀ {os : List Opd} {vs : List V} {ts : List Slot} {env env' : Env1} {fp : List Addr}, Stt K F H (ts ++ env) (vs.map some ++ σ) fp → OpdsR K F' σ os vs → putR os ts env = some env' → ∃ fp', fp'.Perm fp ∧ Stt K F H env' σ fp'
  | [], _, [], _, _, fp, t, .nil, e => by cases e; exact ⟨fp, List.Perm.refl _, t⟩
  | [], _, _ :: _, _, _, _, _, .nil, e => by cases e
  | .dat _ :: _, _, [], _, _, _, _, .cons _ _, e => by cases e
  | .dat _ :: _, _, _ :: _, _, _, _, _, .cons _ _, e => by cases e
  | .nam _ :: _, _, [], _, _, _, _, .cons _ _, e => by cases e
  | .nam i :: os, v :: vs, t0 :: ts, env, env', fp, t, .cons h r, e => by
    unfold putR at e
    split at e
    · rename_i e1
      have h : σ[i]? = some (some v) := h
      have t : Stt K F H (t0 :: (ts ++ env)) (some v :: (vs.map some ++ σ)) fp := t
      have hl := t.len
      have lt : ts.length = vs.length := by
        have : ∀ {os : List Opd} {ts : List Slot} {e0 e' : Env1}, putR os ts e0 = some e' → ts.length = os.length := by
          intro os
          induction os with
          | nil => intro ts e0 e' h; cases ts with
            | nil => rfl
            | cons _ _ => cases h
          | cons o os ih =>
            intro ts e0 e' h
            cases o with
            | dat _ => cases h
            | nam j =>
              cases ts with
              | nil => cases h
              | cons t ts =>
                unfold putR at h
                split at h
                · rw [List.length_cons, List.length_cons, ih h]
                · cases h
        rw [this e, r.length]
      obtain ⟨fp1, pm1, t1⟩ := t.put (i := ts.length + i) (o' := some v) (by rw [List.getElem?_append_right (by omega), Nat.add_sub_cancel_left]; exact e1)
        ⟨by rw [List.getElem?_append_right (by rw [List.length_map]; omega), List.length_map, lt, Nat.add_sub_cancel_left]; exact h, .inl rfl⟩
      rw [List.set_append_right _ _ (by omega), Nat.add_sub_cancel_left] at t1
      obtain ⟨fp2, pm2, t2⟩ := putR_go t1 r e
      exact ⟨fp2, pm2.trans pm1, t2⟩
    · cases e
/-- the arguments laid together -/
theorem SR.mrg {G : Hp} : ∀ {m : List Bool} {ts : List Slot} {tv : List V} {fpt : List Addr} {ds : List PyData} {fv : List V}, SR K G H ts (tv.map some) fpt → RelAll K G fv ds → ts.length = (m.filter id).length → ds.length = (m.filter (!·)).length →
    SR K G H (mrg m ts (ds.map .val)) ((mrg m tv fv).map some) fpt
  | [], [], [], _, [], [], h, _, _, _ => by cases h; exact .nil
  | [], [], [], _, _ :: _, _, _, .cons _ _, _, l => by simp at l
  | [], _ :: _, _, _, _, _, _, _, l, _ => by simp at l
  | [], [], _ :: _, _, _, _, h, _, _, _ => by cases h
  | true :: m, [], _, _, _, _, _, _, l, _ => by simp at l
  | true :: m, t :: ts, [], _, _, _, h, _, _, _ => by cases h
  | true :: m, t :: ts, v :: tv, _, ds, fv, .cons h r, ra, l, l2 => .cons h (SR.mrg (m := m) r ra (by simpa using l) (by simpa using l2))
  | false :: m, ts, tv, fpt, [], _, _, _, _, l => by simp at l
  | false :: m, ts, tv, fpt, d :: ds, _, h, .cons ra rr, l, l2 => .cons (f := []) (.val ra) (SR.mrg (m := m) h rr (by simpa using l) (by simpa using l2))
/-- of the slots given back, those that went by reference -/
theorem SR.pick : ∀ {m : List Bool} {outs : List Slot} {vs : List V} {fp : List Addr}, SR K F H outs (vs.map some) fp → ∃ fp', fp'.Sublist fp ∧ SR K F H (selT m outs) ((selT m vs).map some) fp'
  | [], outs, vs, fp, _ => ⟨[], List.nil_sublist _, by cases outs <;> cases vs <;> exact .nil⟩
  | true :: m, [], [], fp, _ => ⟨[], List.nil_sublist _, .nil⟩
  | false :: m, [], [], fp, _ => ⟨[], List.nil_sublist _, .nil⟩
  | _ :: m, [], _ :: _, _, h => by cases h
  | _ :: m, _ :: _, [], _, h => by cases h
  | true :: m, s :: outs, v :: vs, _, .cons (f := f) h r => by
    obtain ⟨fp', h1, h2⟩ := SR.pick (m := m) r
    exact ⟨f ++ fp', List.Sublist.append (List.Sublist.refl _) h1, .cons h h2⟩
  | false :: m, s :: outs, v :: vs, _, .cons (f := f) h r => by
    obtain ⟨fp', h1, h2⟩ := SR.pick (m := m) r
    exact ⟨fp', h1.trans (List.sublist_append_right _ _), h2⟩
theorem RelK.tuples {kvs : List (Key × V)} {ds : List (PyData × PyData)} (e : SameT F F') (r : RelK K F kvs ds) (n : (ds.all fun p => imm p.2) = true) : RelK K F' kvs ds := by
  match r with
  | .nil => exact .nil
  | .cons h r =>
    rw [List.all_cons, Bool.and_eq_true] at n
    exact .cons (h.tuples e n.1) (RelK.tuples e r n.2)
theorem RelT.tuples {kvs : List (List Key × V)} {ds : List (PyData × PyData)} (e : SameT F F') (r : RelT K F kvs ds) (n : (ds.all fun p => imm p.2) = true) : RelT K F' kvs ds := by
  match r with
  | .nil => exact .nil
  | .cons h r =>
    rw [List.all_cons, Bool.and_eq_true] at n
    exact .cons (h.tuples e n.1) (RelT.tuples e r n.2)
theorem SlotR.safe {o : Option V} {f : List Addr} (e : SameT F F') (h : SlotR K F H s o f) (n : safe s = true) : SlotR K F' H s o f := by
  cases h with
  | no => exact .no
  | val r => exact .val (r.tuples e n)
  | @own d a r =>
    cases d with
    | list ds =>
      obtain ⟨xs, h1, h2⟩ := own_list r
      exact .own (d := .list ds) ⟨xs, h1, h2.tuples e n⟩
    | dict kvs =>
      rcases r with ⟨ks, h1, h2⟩ | ⟨ks, h1, h2⟩
      · exact .own (d := .dict kvs) (.inl ⟨ks, h1, h2.tuples e n⟩)
      · exact .own (d := .dict kvs) (.inr ⟨ks, h1, h2.tuples e n⟩)
    | none => exact r.elim
    | bool _ => exact r.elim
    | int _ => exact r.elim
    | str _ => exact r.elim
    | tuple _ => exact r.elim
  | deal h1 h2 => exact .deal h1 h2
theorem SR.safe (e : SameT F F') (h : SR K F H env σ fp) (n : env.all safe = true) : SR K F' H env σ fp := by
  induction h with
  | nil => exact .nil
  | cons h _ ih =>
    rw [List.all_cons, Bool.and_eq_true] at n
    exact .cons (h.safe e n.1) (ih n.2)
theorem lookVs_len {os : List Opd} : ∀ {ds : List PyData}, lookVs env os = some ds → ds.length = os.length := by
  induction os with
  | nil => intro ds e; cases e; rfl
  | cons o os ih =>
    intro ds e
    unfold lookVs at e
    cases e1 : lookV env o with
    | none => rw [e1] at e; cases e
    | some d =>
      rw [e1] at e
      cases e2 : lookVs env os with
      | none => rw [e2] at e; cases e
      | some ds' => rw [e2] at e; cases e; rw [List.length_cons, List.length_cons, ih e2]
theorem lookVs_rel (t : Stt K F H env σ fp) {os : List Opd} {vs : List V} (h : OpdsR K F σ os vs) : ∀ {ds : List PyData}, lookVs env os = some ds → RelAll K F vs ds := by
  induction h with
  | nil => intro ds e; cases e; exact .nil
  | @cons o v os vs h _ ih =>
    intro ds e
    unfold lookVs at e
    cases e1 : lookV env o with
    | none => rw [e1] at e; cases e
    | some d =>
      rw [e1] at e
      cases e2 : lookVs env os with
      | none => rw [e2] at e; cases e
      | some ds' =>
        rw [e2] at e
        cases e
        refine .cons ?_ (ih e2)
        cases o with
        | dat _ => cases e1; exact h
        | nam i =>
          unfold lookV at e1
          simp only at e1
          split at e1
          · rename_i e3
            cases e1
            obtain ⟨o', f, g1, g2, _⟩ := t.rel.slot e3
            cases g2 with
            | val g2 =>
              have h : σ[i]? = some (some v) := h
              rw [h] at g1; cases g1
              exact g2
          · cases e1
theorem looks_len {os : List Opd} : ∀ {ds : List PyData}, looks env os = some ds → ds.length = os.length := by
  induction os with
  | nil => intro ds e; cases e; rfl
  | cons o os ih =>
    intro ds e
    unfold looks at e
    cases e1 : look env o with
    | none => rw [e1] at e; cases e
    | some d =>
      rw [e1] at e
      cases e2 : looks env os with
      | none => rw [e2] at e; cases e
      | some ds' => rw [e2] at e; cases e; rw [List.length_cons, List.length_cons, ih e2]
theorem sel_len {α : Type} : ∀ {m : List Bool} {xs : List α}, m.length = xs.length → (selT m xs).length = (m.filter id).length ∧ (selF m xs).length = (m.filter (!·)).length
  | [], [], _ => ⟨rfl, rfl⟩
  | [], _ :: _, h => by simp at h
  | _ :: _, [], h => by simp at h
  | true :: m, x :: xs, h => by
    obtain ⟨h1, h2⟩ := sel_len (m := m) (xs := xs) (by simpa using h)
    exact ⟨by simp [selT, h1], by simp [selF, h2]⟩
  | false :: m, x :: xs, h => by
    obtain ⟨h1, h2⟩ := sel_len (m := m) (xs := xs) (by simpa using h)
    exact ⟨by simp [selT, h1], by simp [selF, h2]⟩
end
end Pf
/-! PfO: the two kinds of call. -/
namespace Pf
open L2 PyProof.Rows PySem PySem.Spec
section
variable {K : PySem.W.Frag} {F F' H H' : Hp} {envr envz ts : List Slot} {σ : L2.St} {fp fp' f1 f2 fpl : List Addr} {s : Slot} {v : V} {tv : List V} {os : List Opd}
theorem Aside.perm {e1 : List Slot} {s1 : L2.St} {g g' : List Addr} (a : Aside K F H e1 s1 f1 g) (h : g'.Perm g) : Aside K F H e1 s1 f1 g' := ⟨a.rel, a.nd, a.out, fun b m n => a.ap b m (h.mem_iff.mp n)⟩
/-- the value on top, what went by reference put back -/
theorem call_end (t : Stt K F H (s :: ts) (some v :: tv.map some) fpl) (a : Aside K F H envr σ f2 fpl) (ho : OpdsR K F' σ os tv) (e : putR os ts envr = some envz) : ∃ fpz, fpz.Perm (f2 ++ fpl) ∧ Stt K F H (s :: envz) (some v :: σ) fpz := by
  have j := a.join t
  obtain ⟨sub, rel, nd, out, tp⟩ := t
  cases rel with
  | @cons _ _ _ _ f fpo h r =>
    have pm : (f ++ (fpo ++ f2)).Perm (f2 ++ (f ++ fpo)) := by
      rw [← List.append_assoc]
      exact List.perm_append_comm
    have t2 : Stt K F H (s :: (ts ++ envr)) (some v :: (tv.map some ++ σ)) (f ++ (fpo ++ f2)) := ⟨sub, .cons h (r.app a.rel), pm.nodup_iff.mpr j.nd, fun b m => j.out b (pm.mem_iff.mp m), tp⟩
    have nd3 := List.nodup_append.mp t2.nd
    have t3 : Stt K F H (ts ++ envr) (tv.map some ++ σ) (fpo ++ f2) := ⟨sub, r.app a.rel, nd3.2.1, fun b m => t2.out b (List.mem_append_right _ m), tp⟩
    obtain ⟨fp4, pm4, t4⟩ := putR_go t3 ho e
    have as4 : Aside K F H [s] [some v] f fp4 := ⟨by have := SR.cons h (SR.nil : SR K F H [] [] []); rw [List.append_nil] at this; exact this, nd3.1, fun b m => t2.out b (List.mem_append_left _ m), fun b m n => nd3.2.2 b m b (pm4.mem_iff.mp n) rfl⟩
    exact ⟨f ++ fp4, (pm4.append_left f).trans pm, as4.join t4⟩
theorem call_cut (t : Stt K F H (ts ++ envr) (tv.map some ++ σ) fp) (l : ts.length = tv.length) : ∃ f1 f2, fp = f1 ++ f2 ∧ SR K F H ts (tv.map some) f1 ∧ SR K F H envr σ f2 ∧ f1.Nodup ∧ f2.Nodup ∧ (∀ a ∈ f1, F a = none) ∧ (∀ a ∈ f2, F a = none) ∧ ∀ a ∈ f1, a ∉ f2 := by
  obtain ⟨f1, f2, rfl, a, t2⟩ := Stt.cut (e1 := ts) (s1 := tv.map some) (by rw [List.length_map]; exact l) t
  exact ⟨f1, f2, rfl, a.rel, t2.rel, a.nd, t2.nd, a.out, t2.out, a.ap⟩
theorem takeR_len : ∀ {os : List Opd} {ts : List Slot} {e0 e' : Env1}, takeR os e0 = some (ts, e') → ts.length = os.length := by
  intro os
  induction os with
  | nil => intro ts e0 e' h; cases h; rfl
  | cons o os ih =>
    intro ts e0 e' h
    cases o with
    | dat _ => cases h
    | nam j =>
      unfold takeR at h
      cases h1 : takeR os e0 with
      | none => rw [h1] at h; cases h
      | some p =>
        rw [h1] at h
        cases h2 : p.2[j]? with
        | none => simp [h2] at h
        | some s =>
          simp only [h2, Option.bind_some] at h
          split at h
          · cases h
            rw [List.length_cons, List.length_cons, ih h1]
          · cases h
theorem callF_imp {m : List Bool} {G : EvF} {rs : EvOs} {n : Nat} {H : Hp} {Q : VK} {E : XK} (hn : m.length = n) (h : tV K (callF m G rs) σ H Q) : tCall (spOf K n G) [] E (tOs K rs) σ H Q := by
  obtain ⟨F, env, fp, s, env', t, e1, q⟩ := h
  unfold callF at e1
  cases e2 : rs env with
  | none => rw [e2] at e1; cases e1
  | some p2 =>
    obtain ⟨os, env1⟩ := p2
    cases e3 : frzOs env1 (selF m os) with
    | none => simp [e2, e3] at e1
    | some p3 =>
      obtain ⟨dz, env2⟩ := p3
      cases e4 : takeR (selT m os) env2 with
      | none => simp [e2, e3, e4] at e1
      | some p4 =>
        obtain ⟨ts, envr⟩ := p4
        cases e5 : lookVs envr (selF m os) with
        | none => simp [e2, e3, e4, e5] at e1
        | some ds =>
          simp only [e2, e3, e4, e5, Option.bind_some] at e1
          split at e1
          · rename_i hm
            cases e6 : G (Pf.mrg m ts (ds.map .val)) with
            | none => rw [e6] at e1; cases e1
            | some p6 =>
              obtain ⟨s', outs⟩ := p6
              cases e7 : putR (selT m os) (selT m outs) envr with
              | none => simp [e6, e7] at e1
              | some envz =>
                simp only [e6, e7, Option.bind_some] at e1
                cases e1
                refine ⟨F, env, fp, os, env1, t, e2, fun F1 H1 fp1 vs s1 t1 o1 => ?_⟩
                show spOf K n G (vs ++ []) H1 Q E
                rw [List.append_nil]
                obtain ⟨F2, fp2, s2, t2, r2⟩ := frzOs_go t1 (o1.selF m) e3
                have o2 := o1.mono s2.fz
                obtain ⟨fp3, pm3, t3⟩ := takeR_go t2 (o2.selT m) e4
                have lv := o1.length
                have lts : ts.length = (selT m vs).length := by rw [takeR_len e4, (o2.selT m).length]
                obtain ⟨f1, f2, rfl, h1, h2, h3, h4, h5, h6, h7⟩ := call_cut t3 lts
                have hlm : m.length = vs.length := by omega
                have tr : Stt K F2 H1 envr σ f2 := ⟨t3.sub, h2, h4, h6, t3.tup⟩
                have ra : RelAll K F2 (selF m vs) ds := lookVs_rel tr (o2.selF m) e5
                have hms := mrg_sel m vs hlm
                have rel1 : SR K F2 H1 (Pf.mrg m ts (ds.map .val)) (vs.map some) f1 := by
                  have := SR.mrg (m := m) h1 ra (by rw [lts, (sel_len hlm).1]) (by rw [← ra.length, (sel_len hlm).2])
                  rw [hms] at this
                  exact this
                refine ⟨by omega, F2, _, f1, s, outs, ⟨t3.sub, rel1, h3, h5, t3.tup⟩, e6, fun F' H' fp' v st t' => ?_⟩
                obtain ⟨sub, rel, nd, out, tp⟩ := t'
                cases rel with
                | @cons _ _ _ _ f fpo h r =>
                  obtain ⟨fpo', sl, r'⟩ := SR.pick (m := m) r
                  have sl2 : (f ++ fpo').Sublist (f ++ fpo) := List.Sublist.append (List.Sublist.refl _) sl
                  have tl : Stt K F' H' (s :: selT m outs) (some v :: (selT m vs).map some) (f ++ fpo') := ⟨sub, .cons h r', nd.sublist sl2, fun a m => out a (sl2.subset m), tp⟩
                  have st' := st.trans (Step.sub_fp sl2)
                  have as : Aside K F2 H1 envr σ f2 f1 := ⟨h2, h4, h6, fun a m n => h7 a n m⟩
                  obtain ⟨fpz, pmz, tz⟩ := call_end tl (as.step st' sub) (o2.selT m) e7
                  refine q F' H' fpz v ((s1.trans s2).trans ?_) tz
                  have sw := st'.wide f2
                  refine sw.perm ?_ pmz
                  exact pm3.symm.trans List.perm_append_comm
          · cases e1
theorem callB_imp {m : List Bool} {G : EvF} {rs : EvOs} {n : Nat} {H : Hp} {Q : VK} {E : XK} (hn : m.length = n) (h : tV K (callB m G rs) σ H Q) : tCall (spOf K n G) [] E (tOs K rs) σ H Q := by
  obtain ⟨F, env, fp, s, env', t, e1, q⟩ := h
  unfold callB at e1
  cases e2 : rs env with
  | none => rw [e2] at e1; cases e1
  | some p2 =>
    obtain ⟨os, env1⟩ := p2
    cases e4 : takeR (selT m os) env1 with
    | none => simp [e2, e4] at e1
    | some p4 =>
      obtain ⟨ts, envr⟩ := p4
      cases e5 : looks envr (selF m os) with
      | none => simp [e2, e4, e5] at e1
      | some ds =>
        simp only [e2, e4, e5, Option.bind_some] at e1
        split at e1
        · rename_i hm
          cases e6 : G (Pf.mrg m ts (ds.map .val)) with
          | none => rw [e6] at e1; cases e1
          | some p6 =>
            obtain ⟨s', outs⟩ := p6
            simp only [e6, Option.bind_some] at e1
            split at e1
            · rename_i hsafe
              rw [Bool.and_eq_true] at hsafe
              cases e7 : putR (selT m os) (selT m outs) envr with
              | none => simp [e7] at e1
              | some envz =>
                simp only [e7, Option.bind_some] at e1
                cases e1
                refine ⟨F, env, fp, os, env1, t, e2, fun F1 H1 fp1 vs s1 t1 o1 => ?_⟩
                show spOf K n G (vs ++ []) H1 Q E
                rw [List.append_nil]
                obtain ⟨fp3, pm3, t3⟩ := takeR_go t1 (o1.selT m) e4
                have lv := o1.length
                have lts : ts.length = (selT m vs).length := by rw [takeR_len e4, (o1.selT m).length]
                obtain ⟨f1, f2, rfl, h1, h2, h3, h4, h5, h6, h7⟩ := call_cut t3 lts
                have hlm : m.length = vs.length := by omega
                have tr : Stt K F1 H1 envr σ f2 := ⟨t3.sub, h2, h4, h6, t3.tup⟩
                have rb : RelsB K F1 H1 (selF m vs) ds := looks_rel tr (o1.selF m) e5
                have hms := mrg_sel m vs hlm
                classical
                -- what is lent
                let B : Addr → Prop := fun a => a ∈ f2
                let Z : Hp := fun b => if B b then H1 b else F1 b
                have zB : ∀ {b}, B b → Z b = H1 b := fun {b} hb => if_pos hb
                have zN : ∀ {b}, ¬ B b → Z b = F1 b := fun {b} hb => if_neg hb
                have sFZ : Same F1 Z := fun b o e => by
                  have : ¬ B b := fun hb => by rw [h6 b hb] at e; cases e
                  rw [zN this]; exact e
                have sZH : Same Z H1 := fun b o e => by
                  by_cases hb : B b
                  · rw [zB hb] at e; exact e
                  · rw [zN hb] at e; exact t3.sub b o e
                have tZ : Tups Z H1 := fun b xs e => by
                  by_cases hb : B b
                  · rw [zB hb]; exact e
                  · rw [zN hb]; exact t3.tup b xs e
                have bMut : ∀ a, B a → ∃ u, H1 a = some u ∧ Mut (some u) := fun a ha => h2.there a ha
                -- lent things are frozen in Z
                have ra : RelAll K Z (selF m vs) ds := by
                  have own : ∀ a d, OwnAt K F1 H1 a d → a ∈ f2 → Rel K Z (.ref a) d := fun a d ow ha => by
                    cases d with
                    | list xs =>
                      obtain ⟨ys, g1, g2⟩ := own_list ow
                      exact .lst (.inl (.inl ((zB ha).trans g1))) (g2.mono sFZ)
                    | dict kvs =>
                      rcases ow with ⟨ks, g1, g2⟩ | ⟨ks, g1, g2⟩
                      · exact .dK (.inl ((zB ha).trans g1)) (fun _ => (zB ha).trans g1) (g2.mono sFZ)
                      · exact .dT (.inl ((zB ha).trans g1)) (fun _ => (zB ha).trans g1) (g2.mono sFZ)
                    | none => exact ow.elim
                    | bool _ => exact ow.elim
                    | int _ => exact ow.elim
                    | str _ => exact ow.elim
                    | tuple _ => exact ow.elim
                  have one : ∀ {o : Opd} {v : V} {d : PyData}, OpdR K F1 σ o v → look envr o = some d → Rel K Z v d := fun {o v d} ho hl => by
                    cases o with
                    | dat d' => cases hl; exact Rel.mono sFZ ho
                    | nam i =>
                      have ho : σ[i]? = some (some v) := ho
                      have hl : (envr[i]?).bind Slot.dat = some d := hl
                      cases e : envr[i]? with
                      | none => rw [e] at hl; cases hl
                      | some sl =>
                        rw [e] at hl
                        obtain ⟨o', f, g1, g2, g3⟩ := tr.rel.slot e
                        rw [ho] at g1; cases g1
                        have hl : sl.dat = some d := hl
                        cases g2 with
                        | no => cases hl
                        | val r => cases hl; exact r.mono sFZ
                        | own r => cases hl; exact own _ _ r (g3 _ (by simp))
                        | deal _ _ => cases hl
                  have row : ∀ {os : List Opd} {vs : List V}, OpdsR K F1 σ os vs → ∀ {ds : List PyData}, looks envr os = some ds → RelAll K Z vs ds := by
                    intro os vs h
                    induction h with
                    | nil => intro ds e; cases e; exact .nil
                    | @cons o v os vs h _ ih =>
                      intro ds e
                      unfold looks at e
                      cases e1 : look envr o with
                      | none => rw [e1] at e; cases e
                      | some d =>
                        rw [e1] at e
                        cases e2 : looks envr os with
                        | none => rw [e2] at e; cases e
                        | some ds' => rw [e2] at e; cases e; exact .cons (one h e1) (ih e2)
                  exact row (o1.selF m) e5
                have h1Z : SR K Z H1 ts ((selT m vs).map some) f1 := h1.mono sFZ fun _ _ => rfl
                have rel1 : SR K Z H1 (Pf.mrg m ts (ds.map .val)) (vs.map some) f1 := by
                  have := SR.mrg (m := m) h1Z ra (by rw [lts, (sel_len hlm).1]) (by rw [← ra.length, (sel_len hlm).2])
                  rw [hms] at this
                  exact this
                have outZ : ∀ a ∈ f1, Z a = none := fun a ha => by rw [zN (h7 a ha)]; exact h5 a ha
                refine ⟨by omega, Z, _, f1, s, outs, ⟨sZH, rel1, h3, outZ, tZ⟩, e6, fun F' H' fp' v st t' => ?_⟩
                obtain ⟨sub, rel, nd, out, tp⟩ := t'
                cases rel with
                | @cons _ _ _ _ f fpo h r =>
                  obtain ⟨fpo', sl, r'⟩ := SR.pick (m := m) r
                  have sl2 : (f ++ fpo').Sublist (f ++ fpo) := List.Sublist.append (List.Sublist.refl _) sl
                  have st' := st.trans (Step.sub_fp sl2)
                  -- what was lent is taken back
                  let Y : Hp := fun b => if B b then none else F' b
                  have yB : ∀ {b}, B b → Y b = none := fun {b} hb => if_pos hb
                  have yN : ∀ {b}, ¬ B b → Y b = F' b := fun {b} hb => if_neg hb
                  have yF : ∀ {b o}, Y b = some o → ¬ B b ∧ F' b = some o := fun {b o} e => by
                    by_cases hb : B b
                    · rw [yB hb] at e; cases e
                    · rw [yN hb] at e; exact ⟨hb, e⟩
                  have bF' : ∀ b, B b → ∃ u, F' b = some u ∧ Mut (some u) := fun b hb => by
                    obtain ⟨u, g1, g2⟩ := bMut b hb
                    exact ⟨u, st.fz b u ((zB hb).trans g1), g2⟩
                  have sT : SameT F' Y := fun b xs e => by
                    by_cases hb : B b
                    · obtain ⟨u, g1, g2⟩ := bF' b hb
                      rw [g1] at e; cases e; exact g2.elim
                    · rw [yN hb]; exact e
                  have sYH : Same Y H' := fun b o e => sub b o (yF e).2
                  have tY : Tups Y H' := fun b xs e => sT b xs (tp b xs e)
                  have sFY : Same F1 Y := fun b o e => by
                    have nb : ¬ B b := fun hb => by rw [h6 b hb] at e; cases e
                    rw [yN nb]; exact st.fz b o (sFZ b o e)
                  have tl : Stt K Y H' (s :: selT m outs) (some v :: (selT m vs).map some) (f ++ fpo') := ⟨sYH, .cons (h.safe sT hsafe.1) (r'.safe sT hsafe.2), nd.sublist sl2, fun a m => by
                    by_cases hb : B a
                    · exact yB hb
                    · rw [yN hb]; exact out a (sl2.subset m), tY⟩
                  have as : Aside K Y H' envr σ f2 (f ++ fpo') := by
                    refine ⟨h2.mono sFY fun a ha => ?_, h4, fun a ha => yB ha, fun a ha n => ?_⟩
                    · obtain ⟨u, g1, _⟩ := bMut a ha
                      rw [g1, st.keep a u g1 fun n => h7 a n ha]
                    · rcases st'.newP a n with z | z
                      · exact h7 a z ha
                      · obtain ⟨u, g1, _⟩ := bMut a ha
                        rw [g1] at z; cases z
                  obtain ⟨fpz, pmz, tz⟩ := call_end tl as (o1.selT m) e7
                  refine q Y H' fpz v (s1.trans ?_) tz
                  have sw : Step F1 H1 (f2 ++ f1) Y H' (f2 ++ (f ++ fpo')) := by
                    refine ⟨sFY, fun b o e n => st.keep b o e fun z => n (List.mem_append_right _ z), fun b o e => ?_, fun b n => ?_⟩
                    · obtain ⟨nb, e⟩ := yF e
                      rcases st.newF b o e with z | z | z
                      · rw [zN nb] at z; exact .inl z
                      · exact .inr (.inl (List.mem_append_right _ z))
                      · exact .inr (.inr z)
                    · rcases List.mem_append.mp n with n | n
                      · exact .inl (List.mem_append_left _ n)
                      · rcases st'.newP b n with z | z
                        · exact .inl (List.mem_append_right _ z)
                        · exact .inr z
                  refine sw.perm ?_ pmz
                  exact pm3.symm.trans List.perm_append_comm
            · cases e1
        · cases e1
end
section
variable {X : Cx} {x : Str} {p pos : Pos} {e : Expr} {es : List Expr} {k : Nat} {f : Addr} {fd : FuncData} {ps ks : List Str} {m : List Bool} {G : EvF} {rs : EvOs} {kws : List Keyword}
theorem pv_call (F : FnOk X.prog X.w X.K X.mg X.base CX0 k f fd ps (spOf X.K ps.length G)) (hr : Room k X.A) (hg : Gl X x) (hm : X.mg x = some (.ref f)) (hk : PySem.W.keepIn X.K (.ref f) = true) (hb : Binds X.K fd ps []) (hl : m.length = ps.length)
    (ha : PA X (e :: es) (tOs X.K rs)) (hdb : (x == ("__debug__" : Str)) = false := by decide) (he : starEach (e :: es) X.env = (false, eval e X.env) :: starEach es X.env := by rfl) (hpl : (backTo pos (starEach es X.env)).any (·.1) = false := by rfl) :
    PE X (.Call (.Name x p) (e :: es) [] pos) (tV X.K (callF m G rs)) := (pe_call (E := E0) F hr hg hm hk hb .nil pass0 ha hdb he hpl).weak fun _ _ _ => callF_imp hl
theorem pv_callB' (F : FnOk X.prog X.w X.K X.mg X.base CX0 k f fd ps (spOf X.K ps.length G)) (hr : Room k X.A) (hg : Gl X x) (hm : X.mg x = some (.ref f)) (hk : PySem.W.keepIn X.K (.ref f) = true) (hb : Binds X.K fd ps []) (hl : m.length = ps.length)
    (ha : PA X (e :: es) (tOs X.K rs)) (hdb : (x == ("__debug__" : Str)) = false := by decide) (he : starEach (e :: es) X.env = (false, eval e X.env) :: starEach es X.env := by rfl) (hpl : (backTo pos (starEach es X.env)).any (·.1) = false := by rfl) :
    PE X (.Call (.Name x p) (e :: es) [] pos) (tV X.K (callB m G rs)) := (pe_call (E := E0) F hr hg hm hk hb .nil pass0 ha hdb he hpl).weak fun _ _ _ => callB_imp hl
end
end Pf
/-! PfP: enumerate over a tuple. -/
namespace Pf
open L2 PyProof.Rows PySem PySem.Spec
open AutoSeq1 (wpAny_loadPart')
theorem drawsT {prog : Program} {w : World} {A : Around} (hh : A.handled = none) (it l : Addr) (hne : l ≠ it) (items : Array Value) :
    Draws prog w A it [it, l] items.size (fun i v => items[i]? = some v) (fun i h => h.IsTupleIter it l i ∧ h.IsTuple l items) where
  live := fun _ _ st => let ⟨o, ho, _⟩ := st.1; ⟨o, ho⟩
  frame := fun _ _ _ st hk => ⟨st.1.at fun o e => hk it (by simp) o e, let ⟨o, ho, r⟩ := st.2; ⟨o, hk l (by simp) o ho, r⟩⟩
  item := fun i s Q E hi st hQ => by
    refine RZ.nextOf_tuple_item st.1 st.2 (x := items[i]) (by simp [hi]) fun h' hit' hs' => ?_
    exact hQ _ h' s.toks (by simp [hi]) ⟨hit', let ⟨o, ho, r⟩ := st.2; ⟨o, hs'.extBut _ _ hne ho, r⟩⟩ hs'
  done := fun s Q E st hE => RZ.nextOf_tuple_end hh st.1 st.2 (by simp) hE
theorem meets_enumT (l : Addr) (items : Array Value) (n : Nat) (dct : Option Addr) (sl : Array (Option Value)) :
    Meets (Builtin.«enumerate.__new__» ⟨[.type "enumerate", .ref l], []⟩) (fun _ R s => s.heap.get? l = some { cls := .type "tuple", dict := dct, data := .seq items n, slots := sl } ∧
      R (.ok (.ret (.ref (s.heap.push { cls := .type "tuple_iterator", data := .fields #[.ref l, .int 0 0] }).objs.size)))
        { s with heap := (s.heap.push { cls := .type "tuple_iterator", data := .fields #[.ref l, .int 0 0] }).push { cls := .type "enumerate", data := .fields #[.none, .bool false, .ref s.heap.objs.size, rawInt 0, .none, .none] } }) :=
  .of_wp fun prog w A R s h => by
    obtain ⟨hp, g, d, tk, os⟩ := s; obtain ⟨hl, h⟩ := h
    have hsub := sub_enumerate
    have hL : Heap.IsTuple (Shared.heap ⟨hp, g, d, tk, os⟩) l items := ⟨_, hl, rfl, n, rfl⟩
    wp_walk using wpAny_loadPart' hl
    refine wpAny_stack_any fun st => wpAny_pure ?_
    split
    · rename_i c _ _ _ _ _
      cases (c == Value.type "enumerate")
      · wp_walk using wpAny_loadPart' hl, wpAny_pyIter_tuple hL
        exact ⟨_, rfl, h⟩
      · wp_walk using wpAny_loadPart' hl, wpAny_pyIter_tuple hL
        exact ⟨_, rfl, h⟩
    · wp_walk using wpAny_loadPart' hl, wpAny_pyIter_tuple hL
      exact ⟨_, rfl, h⟩
theorem call_enumT {prog : Program} {w : World} {A : Around} {E : Value → Shared → Prop} {s : Shared} {l : Addr} {items : Array Value} {Q : Value → Shared → Prop} (hL : s.heap.IsTuple l items)
    (h : ∀ h', IsEnum h' (s.heap.objs.size + 1) s.heap.objs.size 0 .none → h'.IsTupleIter s.heap.objs.size l 0 → h'.objs.size = s.heap.objs.size + 2 →
      (∀ b o, s.heap.get? b = some o → h'.get? b = some o) → Q (.ref (s.heap.objs.size + 1)) { s with heap := h' }) :
    wpAny (model prog w) A (call (.type "enumerate") [.ref l]) Q E s := by
  obtain ⟨⟨c, dct, dt, sl⟩, hl, hc, n, hd⟩ := hL
  replace hc : c = .type "tuple" := hc
  replace hd : dt = .seq items n := hd
  subst hc hd
  refine callType_new F.called_enumerate (by decide) (F.typeCall_enumerate_1 _) (F.newCall_enumerate_1 _) (fun obj => F.args_object_init_2 obj _) F.entry_enumerate_new
    (meets_enumT l items n dct sl) ⟨hl, ?_⟩
  have hz : (s.heap.push { cls := .type "tuple_iterator", data := .fields #[.ref l, .int 0 0] }).objs.size = s.heap.objs.size + 1 := Heap.size_push ..
  show _ ∧ _
  rw [hz]
  have he : IsEnum ((s.heap.push { cls := .type "tuple_iterator", data := .fields #[.ref l, .int 0 0] }).push
      { cls := .type "enumerate", data := .fields #[.none, .bool false, .ref s.heap.objs.size, rawInt 0, .none, .none] }) (s.heap.objs.size + 1) s.heap.objs.size 0 .none := by
    have := Heap.get?_push_size (s.heap.push { cls := .type "tuple_iterator", data := .fields #[.ref l, .int 0 0] })
      (o := { cls := .type "enumerate", data := .fields #[.none, .bool false, .ref s.heap.objs.size, rawInt 0, .none, .none] }) rfl
    rw [hz] at this; exact this
  refine ⟨⟨_, he, rfl⟩, h _ he ⟨_, Heap.get?_push_of_some _ (Heap.get?_push_size _ rfl), rfl, rfl⟩ (by rw [Heap.size_push, hz]) fun b o x => Heap.get?_push_of_some _ (Heap.get?_push_of_some _ x)⟩
/-- the tuple at a, each item in a new pair -/
def IteT (K : PySem.W.Frag) (a : Addr) : It :=
  ⟨fun i H => ∃ (xs : List V) (x : V), SqT K H a xs ∧ xs[i]? = some x, fun i H v H' => ∃ T x, v = .ref T ∧ H T = none ∧ H' = upd H T (.tup [.int (i : Nat), x]) ∧ ∀ xs, SqT K H a xs → xs[i]? = some x, fun i H => ∃ xs : List V, SqT K H a xs ∧ xs.length = i⟩
theorem turn_enumT {P : Program} {w : World} {K : PySem.W.Frag} {elts : List Expr} {kk : Nat} {tpos : Pos} (a e it : Addr) (hea : e ≠ a) (hia : a ≠ it) :
    Turn P w K (.Tuple elts kk tpos) (IteT K a) [e, it] e (fun i h => (∃ old, IsEnum h e it ((i : Nat) : Int) old) ∧ h.IsTupleIter it a i ∧ e ≠ it) where
  mem := by simp
  obj := fun i h st b hb => by
    obtain ⟨⟨old, he⟩, ⟨o, ho, hc, hd⟩, _⟩ := st
    have e' : b = e ∨ b = it := by simpa using hb
    rcases e' with z | z
    · rw [z]; exact ⟨_, he, fun v q => nomatch q⟩
    · rw [z]; exact ⟨o, ho, fun v q => by rw [hd] at q; cases q⟩
  keep := fun i h h' st k => let ⟨⟨old, he⟩, hi, hne⟩ := st; ⟨⟨old, k e (by simp) _ he⟩, hi.at fun o q => k it (by simp) o q, hne⟩
  item := by
    intro X hP hw hK hc i pins s σ H E I hf st hg
    subst hP hw hK
    obtain ⟨⟨old, he⟩, hit, hne⟩ := st
    obtain ⟨xs, x, hq, hx⟩ := hg
    obtain ⟨its, rv, p, hz⟩ := I.tuple hq
    obtain ⟨u, hu, ru⟩ := rv.get hx
    have hel : e < s.heap.objs.size := Heap.lt_size he
    have hil : it < s.heap.objs.size := by obtain ⟨_, q, _⟩ := hit; exact Heap.lt_size q
    have hlt : i < its.toArray.size := by
      have := (List.getElem?_eq_some_iff.mp hu).1
      simpa using this
    refine wpAny_pyNext_enum_itemD (drawsT (prog := X.prog) (w := X.w) (A := X.A.in1) (I.ok.hd hc) it a hia its.toArray) he ⟨hit, p⟩ hlt hne (by simp [hne, hea]) fun u' h' tk hu' ho hit' hT hsz hk => ?_
    have hu' : its.toArray[i]? = some u' := hu'
    have eu : u' = u := by
      have : its[i]? = some u' := by simpa using hu'
      rw [hu] at this
      exact (Option.some.inj this).symm
    subst eu
    refine ⟨_, rfl, wpAny_letOwnedTupleGo_enum (s := { s with heap := h', toks := tk + 1 }) ho fun h'' he' sb => ?_⟩
    have hT2 : h''.get? s.heap.objs.size = some { cls := .type "tuple", data := .seq #[.int i tk, u'] } := (sb.2 _ (Nat.ne_of_gt hel)).trans hT
    have new : ObjOk X.prog X.w (upd H s.heap.objs.size (.tup [.int (i : Nat), x])) h'' s.heap.objs.size (.tup [.int (i : Nat), x]) :=
      ⟨by show 2 ≤ sizeLine; decide, [.int i tk, u'], .cons ⟨_, rfl⟩ (.cons ru .nil), ⟨_, hT2, rfl, _, rfl⟩⟩
    have I1 : Inv X pins σ (upd H s.heap.objs.size (.tup [.int (i : Nat), x])) { s with heap := h'', toks := tk + 1 } :=
      I.turnedNew (ch := [e, it]) (fun b ob hb q => (sb.2 b (fun z => hb (by simp [z]))).trans (hk b ob (fun z => hb (by simp [z])) (fun z => hb (by simp [z])) q)) hf (Nat.le_refl _) new
    refine ⟨.ref s.heap.objs.size, _, I1, rfl, ⟨_, x, rfl, I.hok.fresh (Nat.le_refl _), rfl, fun ys hy => ?_⟩, ⟨⟨u', ?_⟩, hit'.1.at fun o q => (sb.2 it (Ne.symm hne)).trans q, hne⟩, fun b hb => ?_⟩
    · rw [I.tuple_inj hy hq]; exact hx
    · have e1 : ((i + 1 : Nat) : Int) = (i : Int) + 1 := by omega
      rw [e1]; exact he'
    · have hb' : b < s.heap.objs.size := by
        have e' : b = e ∨ b = it := by simpa using hb
        rcases e' with z | z
        · rw [z]; exact hel
        · rw [z]; exact hil
      rw [upd_ne (Nat.ne_of_lt hb')]
      exact (hf b hb).1
  done := by
    intro X hP hw hK hc i pins s σ H E I hf st hg
    subst hP hw hK
    obtain ⟨⟨old, he⟩, hit, hne⟩ := st
    obtain ⟨xs, hq, hx⟩ := hg
    obtain ⟨its, rv, p, hz⟩ := I.tuple hq
    obtain ⟨f0, f1, f2, f3, f4, f5⟩ := hf it (by simp)
    have hl := rv.length
    have ei : i = its.toArray.size := by simp; omega
    subst ei
    exact wpAny_pyNext_enum_endD (drawsT (prog := X.prog) (w := X.w) (A := X.A.in1) (I.ok.hd hc) it a hia its.toArray) he ⟨hit, p⟩ fun h' eb => ⟨rfl, I.turned (t' := s.toks) (fun b o hb q => eb b o hb q) f0 f1 f3 f4 f5⟩
  self := fun A i s Q E st h => let ⟨⟨_, he⟩, _⟩ := st; wpAny_pyIter_enum he h
def iEnumT (K : PySem.W.Frag) (ta : TA) : TI := fun σ H R => ta σ H fun vs H1 => ∃ a xs, vs = [.ref a] ∧ SqT K H1 a xs ∧ R (IteT K a) H1
theorem pi_enumT {X : Cx} {e : Expr} {ta : TA} {p pos tpos : Pos} {elts : List Expr} {kk : Nat} (hg : Gl X "enumerate") (hm : X.mg "enumerate" = none) (ha : PA X [e] ta) (hs : starEach [e] X.env = [(false, eval e X.env)] := by rfl) :
    PI X (.Tuple elts kk tpos) (.Call (.Name "enumerate" p) [e] [] pos) (iEnumT X.K ta) := by
  refine ⟨fun pins s σ H R I h => ?_⟩
  refine Call_ (ld_blt I hg hm boot_enumerate (PyProof.Rows.callWith_type1 (thn (ha.run pos pins s σ H _ I h) fun us s1 ⟨vs, H1, I1, r1, q1⟩ => ?_) hs rfl))
  obtain ⟨a, xs, ex, hq, q⟩ := q1
  subst ex
  cases r1 with
  | cons r rr =>
    cases rr
    cases r
    obtain ⟨its, rv, p', hz⟩ := I1.tuple hq
    have ha : a < s1.heap.objs.size := by obtain ⟨o, ho, _⟩ := p'; exact Heap.lt_size ho
    refine call_enumT (show s1.heap.IsTuple a its.toArray from p') fun h' he hit hsz hk => wpAny_pyIter_enum he ?_
    have I2 : Inv X pins σ H1 { s1 with heap := h' } := I1.kept (t' := s1.toks) hk
    refine ⟨s1.heap.objs.size + 1, [s1.heap.objs.size + 1, s1.heap.objs.size], _, _, H1, rfl, I2, turn_enumT a (s1.heap.objs.size + 1) s1.heap.objs.size (Nat.ne_of_gt (Nat.lt_succ_of_lt ha)) (Nat.ne_of_lt ha), ⟨⟨.none, he⟩, hit, Nat.succ_ne_self _⟩, fun b hb => ?_, q⟩
    have e' : b = s1.heap.objs.size + 1 ∨ b = s1.heap.objs.size := by simpa using hb
    have hle : s1.heap.objs.size ≤ b := by
      rcases e' with z | z
      · rw [z]; exact Nat.le_add_right _ _
      · rw [z]; exact Nat.le_refl _
    exact I1.fpOk hle (I1.hok.fresh hle)
theorem walkD_enumT {K : PySem.W.Frag} {F : Hp} {a : Addr} {xs : List V} {ds : List PyData} (h : F a = some (.tup xs)) (r : RelAll K F xs ds) : WalkD K F (IteT K a) (enumD ds) where
  goes := fun i F' H hi s1 s2 => by
    rw [enumD_length] at hi
    have l1 := r.length
    exact ⟨xs, xs[i]'(by omega), SqT.of (s2 _ _ (s1 _ _ h)), List.getElem?_eq_getElem (by omega)⟩
  stops := fun F' H s1 s2 => ⟨xs, SqT.of (s2 _ _ (s1 _ _ h)), by rw [enumD_length, r.length]⟩
  yields := fun i F' H x H' d e s1 s2 y => by
    obtain ⟨d', e', rfl⟩ := enumD_get e
    obtain ⟨T, u, rfl, hT, rfl, h1⟩ := y
    obtain ⟨v', g1, g2⟩ := r.get e'
    rw [show xs[i]? = some u from h1 _ (SqT.of (s2 _ _ (s1 _ _ h)))] at g1; cases g1
    exact pair_new s2 hT (.int _) (g2.mono s1)
section
variable {X : Cx} {tg e a b c : Expr} {pos p : Pos}
theorem si_enum {r : EvO} {elts : List Expr} {kk : Nat} {tpos : Pos} (hg : Gl X "enumerate") (hm : X.mg "enumerate" = none) (ha : PE X a (tO X.K r)) (hs : starEach [a] X.env = [(false, eval a X.env)] := by rfl) (hs2 : starEach [a] X.env = (false, eval a X.env) :: starEach [] X.env := by rfl) :
    PI X (.Tuple elts kk tpos) (.Call (.Name "enumerate" p) [a] [] pos) (tI X.K (iEnu r)) := PI.pick fun σ H R w => by
  obtain ⟨F, env, fp, ds, env', t, e1, q⟩ := w
  unfold iEnu iSeq at e1
  cases e2 : r env with
  | none => simp [e2] at e1
  | some p =>
    obtain ⟨o, env1⟩ := p
    cases e3 : frzO env1 o with
    | none => simp [e2, e3] at e1
    | some p3 =>
      obtain ⟨d, env2⟩ := p3
      cases d with
      | list ds' =>
        simp [e2, e3, seqOf] at e1
        obtain ⟨rfl, rfl⟩ := e1
        refine ⟨_, pi_enum hg hm (pa_cons ha pa_nil hs2) hs, F, env, fp, o, env1, t, e2, fun F1 H1 fp1 v s1 t1 o1 => ?_⟩
        obtain ⟨F2, fp2, s2, t2, r2⟩ := frzO_go t1 o1 e3
        cases r2 with
        | lst h r => exact ⟨_, _, rfl, Same.sql t2.sub h, q F2 H1 fp2 _ (s1.trans s2) t2 (walkD_enum h r)⟩
      | tuple ds' =>
        simp [e2, e3, seqOf] at e1
        obtain ⟨rfl, rfl⟩ := e1
        refine ⟨_, pi_enumT hg hm (pa_cons ha pa_nil hs2) hs, F, env, fp, o, env1, t, e2, fun F1 H1 fp1 v s1 t1 o1 => ?_⟩
        obtain ⟨F2, fp2, s2, t2, r2⟩ := frzO_go t1 o1 e3
        cases r2 with
        | tup h r => exact ⟨_, _, rfl, SqT.of (t2.sub _ _ h), q F2 H1 fp2 _ (s1.trans s2) t2 (walkD_enumT h r)⟩
      | none => simp [e2, e3, seqOf] at e1
      | bool _ => simp [e2, e3, seqOf] at e1
      | int _ => simp [e2, e3, seqOf] at e1
      | str _ => simp [e2, e3, seqOf] at e1
      | dict _ => simp [e2, e3, seqOf] at e1
end
/-! ### isinstance -/
def eIsi (ts : List Ty) (r : EvO) : EvV := ev1 (gIsi ts) r
section
variable {X : Cx} {e : Expr} {pos p pt tpos : Pos} {x : Str}
theorem isi_some {ts : List Ty} {ds : List PyData} {s : Slot} (h : gIsi ts ds = some s) : ∃ d, ds = [d] ∧ (∀ kvs, d ≠ .dict kvs) ∧ s = .val (.bool (ts.any (isiD d))) := by
  unfold gIsi at h
  split at h
  · cases h
  · rename_i d hd
    cases h
    exact ⟨d, rfl, fun kvs e => hd kvs (by rw [e]), rfl⟩
  · cases h
theorem pv_isi {t : Ty} {r : EvO} (hg : Gl X "isinstance") (hm : X.mg "isinstance" = none) (ha : PE X e (tO X.K r)) (hgt : Gl X x) (hmt : X.mg x = none) (hv : bootBuiltins x = some (.type t.name)) (hn : x ≠ "__name__" := by decide) (hd : (x == ("__debug__" : Str)) = false := by decide)
    (hs : starEach [e, .Name x pt] X.env = (false, eval e X.env) :: starEach [.Name x pt] X.env := by rfl) :
    PE X (.Call (.Name "isinstance" p) [e, .Name x pt] [] pos) (tV X.K (eIsi [t] r)) :=
  (pe_callB (t := tCons (tO X.K r) (tCons (tC (.ty t.name)) tNil)) call_isi hg hm boot_isinstance (pa_cons ha (pa_cons (pe_bltn (v := .ty t.name) hgt hmt hv rfl hn hd) pa_nil) hs) (he := hs)).weak fun σ H Q h => by
    obtain ⟨F, env, fp, o, env', t0, e1, q⟩ := one_imp h
    refine ⟨F, env, fp, o, env', t0, e1, fun F1 H1 fp1 v s1 t1 o1 => ?_⟩
    obtain ⟨F2, ds, s, sm, tp, rs, e2, w⟩ := q F1 H1 fp1 v s1 t1 o1
    obtain ⟨d, rfl, hd, rfl⟩ := isi_some e2
    obtain ⟨v', e, rb⟩ := rs.one
    cases e
    refine ⟨v, .ty t.name, _, _, _, rfl, .ty _, ty_of sm rb hd, kit_isi hd t, ?_⟩
    have : [t].any (isiD d) = isiD d t := by simp
    rw [← this]
    exact Wants.old w sm (.bl _)
theorem pv_isi2 {t t' : Ty} {x' : Str} {pt' : Pos} {kk : Nat} {r : EvO} (hg : Gl X "isinstance") (hm : X.mg "isinstance" = none) (ha : PE X e (tO X.K r)) (hgt : Gl X x) (hmt : X.mg x = none) (hv : bootBuiltins x = some (.type t.name)) (hgt' : Gl X x') (hmt' : X.mg x' = none) (hv' : bootBuiltins x' = some (.type t'.name)) (hn : x ≠ "__name__" := by decide) (hd : (x == ("__debug__" : Str)) = false := by decide) (hn' : x' ≠ "__name__" := by decide) (hd' : (x' == ("__debug__" : Str)) = false := by decide)
    (hs : starEach [e, .Tuple [.Name x pt, .Name x' pt'] kk tpos] X.env = (false, eval e X.env) :: starEach [.Tuple [.Name x pt, .Name x' pt'] kk tpos] X.env := by rfl) :
    PE X (.Call (.Name "isinstance" p) [e, .Tuple [.Name x pt, .Name x' pt'] kk tpos] [] pos) (tV X.K (eIsi [t, t'] r)) :=
  (pe_callB (t := tCons (tO X.K r) (tCons (tTup (tCons (tC (.ty t.name)) (tCons (tC (.ty t'.name)) tNil))) tNil)) call_isiT hg hm boot_isinstance (pa_cons ha (pa_cons (pe_tup (pa_cons (pe_bltn (v := .ty t.name) hgt hmt hv rfl hn hd) (pa_cons (pe_bltn (v := .ty t'.name) hgt' hmt' hv' rfl hn' hd') pa_nil))) pa_nil) hs) (he := hs)).weak fun σ H Q h => by
    obtain ⟨F, env, fp, o, env', t0, e1, q⟩ := one_imp h
    refine ⟨F, env, fp, o, env', t0, e1, fun F1 H1 fp1 v s1 t1 o1 => ?_⟩
    obtain ⟨F2, ds, s, sm, tp, rs, e2, w⟩ := q F1 H1 fp1 v s1 t1 o1
    obtain ⟨d, rfl, hd, rfl⟩ := isi_some e2
    obtain ⟨v', e, rb⟩ := rs.one
    cases e
    refine ⟨by rw [sizeLine_eq]; exact (by decide : 2 ≤ 16777216), fun p hp => ?_⟩
    have nw : New F2 H1 (upd F2 p (.tup [.ty t.name, .ty t'.name])) (upd H1 p (.tup [.ty t.name, .ty t'.name])) := New.shut sm hp
    have rb' : RelB X.K (upd F2 p (.tup [.ty t.name, .ty t'.name])) (upd H1 p (.tup [.ty t.name, .ty t'.name])) v d := by
      rcases rb with rb | ⟨a, ea, ow⟩
      · exact .inl (rb.mono nw.fz)
      · obtain ⟨u, hu, _⟩ := ow.there
        exact .inr ⟨a, ea, ow.mono nw.fz (upd_ne (ne_of_none hu hp))⟩
    refine ⟨v, p, [.ty t.name, .ty t'.name], _, [.type t.name, .type t'.name], _, rfl, upd_same, .cons (.ty _) (.cons (.ty _) .nil), ty_of nw.sub rb' hd, kit_any hd [t, t'], ?_⟩
    exact w _ _ (.bl _) [] nw (.val (.bl _)) List.nodup_nil (by simp)
end
end Pf
/-! PfQ: keywords, slices, list(range), the source of draws. -/
namespace Pf
open L2 PyProof.Rows PySem PySem.Spec
/-! ### slices -/
def optI (r : Option EvO) : Env1 → Option (Option Int × Env1) := fun env => match r with
  | none => some (none, env)
  | some r => (r env).bind fun p => (look p.2 p.1).bind fun d => (intOf d).bind fun i => some (some i, p.2)
def tOI (K : PySem.W.Frag) (r : Option EvO) : TO := fun σ H Q => ∃ F env fp i env', Stt K F H env σ fp ∧ optI r env = some (i, env') ∧ ∀ F' H' fp', Step F H fp F' H' fp' → Stt K F' H' env' σ fp' → Q i H'
def vCut (ra : EvO) (rl rh : Option EvO) : EvV := fun env => (ra env).bind fun p => (optI rl p.2).bind fun l => (optI rh l.2).bind fun h => (look h.2 p.1).bind fun d => (gCut l.1 h.1 d).bind fun s => some (s, h.2)
def gRev1 : List PyData → Option Slot
  | [d] => gRev d
  | _ => none
def vRev (ra : EvO) : EvV := ev1 gRev1 ra
section
variable {X : Cx} {e : Expr} {pos : Pos}
theorem PO.weak {e : Option Expr} {t t' : TO} (h : PO X e t) (i : ∀ σ H Q, t' σ H Q → t σ H Q) : PO X e t' := ⟨fun pins s σ H Q I w => h.run pins s σ H Q I (i _ _ _ w)⟩
theorem oi_none : PO X none (tOI X.K none) := PO.weak po_none fun σ H Q h => by
  obtain ⟨F, env, fp, i, env', t, e1, q⟩ := h
  cases e1
  exact q F H fp Step.refl t
theorem oi_some {r : EvO} (h : PE X e (tO X.K r)) : PO X (some e) (tOI X.K (some r)) := PO.weak (po_some h) fun σ H Q h => by
  obtain ⟨F, env, fp, i, env', t, e1, q⟩ := h
  have e1 : ((r env).bind fun p => (look p.2 p.1).bind fun d => (intOf d).bind fun i => some (some i, p.2)) = some (i, env') := e1
  cases e2 : r env with
  | none => rw [e2] at e1; cases e1
  | some p =>
    obtain ⟨o, env1⟩ := p
    rw [e2] at e1
    cases e3 : look env1 o with
    | none => simp [e3] at e1
    | some d =>
      cases e4 : intOf d with
      | none => simp [e3, e4] at e1
      | some k =>
        simp [e3, e4] at e1
        obtain ⟨rfl, rfl⟩ := e1
        cases intOf_some e4
        exact ⟨F, env, fp, o, _, t, e2, fun F1 H1 fp1 v s1 t1 o1 => ⟨k, (look_rel t1 o1 e3).int, q F1 H1 fp1 s1 t1⟩⟩
theorem pv_cut {ra : EvO} {rl rh : Option EvO} {lo hi : Option Expr} {p2 : Pos} (ha : PE X e (tO X.K ra)) (hl : PO X lo (tOI X.K rl)) (hh : PO X hi (tOI X.K rh)) : PE X (.Subscript e (.Slice lo hi none p2) pos) (tV X.K (vCut ra rl rh)) :=
  (pe_slice sl_g ha hl hh).weak fun σ H Q h => by
    obtain ⟨F, env, fp, s, env', t, e1, q⟩ := h
    unfold vCut at e1
    cases e2 : ra env with
    | none => rw [e2] at e1; cases e1
    | some p =>
      obtain ⟨o, env1⟩ := p
      cases e3 : optI rl env1 with
      | none => simp [e2, e3] at e1
      | some p3 =>
        obtain ⟨l, env2⟩ := p3
        cases e4 : optI rh env2 with
        | none => simp [e2, e3, e4] at e1
        | some p4 =>
          obtain ⟨u, env3⟩ := p4
          cases e5 : look env3 o with
          | none => simp [e2, e3, e4, e5] at e1
          | some d =>
            cases e6 : gCut l u d with
            | none => simp [e2, e3, e4, e5, e6] at e1
            | some s' =>
              simp [e2, e3, e4, e5, e6] at e1
              obtain ⟨rfl, rfl⟩ := e1
              refine ⟨F, env, fp, o, env1, t, e2, fun F1 H1 fp1 v s1 t1 o1 => ?_⟩
              refine ⟨F1, env1, fp1, l, env2, t1, e3, fun F2 H2 fp2 s2 t2 => ?_⟩
              refine ⟨F2, env2, fp2, u, _, t2, e4, fun F3 H3 fp3 s3 t3 => ?_⟩
              refine ⟨F3, d, s', t3.sub, t3.tup, look_rel t3 ((o1.mono s2.fz).mono s3.fz) e5, e6, fun F4 H4 v' f n sl nd nw => ?_⟩
              obtain ⟨t4, s4⟩ := t3.pushN n sl nd nw
              exact q F4 H4 _ v' (((s1.trans s2).trans s3).trans s4) t4
theorem pv_rev {ra : EvO} {k : Nat} {p1 p2 p3 pos : Pos} (ha : PE X e (tO X.K ra)) : PE X (.Subscript e (.Slice none none (some (.UnaryOp .USub (.Constant (.int 1) k p1) p2)) p3) pos) (tV X.K (vRev ra)) :=
  (pe_rev ha).weak fun σ H Q h => by
    obtain ⟨F, env, fp, o, env', t0, e1, q⟩ := one_imp h
    refine ⟨F, env, fp, o, env', t0, e1, fun F1 H1 fp1 v s1 t1 o1 => ?_⟩
    obtain ⟨F2, ds, s, sm, tp, rs, e2, w⟩ := q F1 H1 fp1 v s1 t1 o1
    unfold gRev1 at e2
    split at e2
    · rename_i d
      obtain ⟨v', e, rb⟩ := rs.one
      cases e
      exact ⟨F2, d, s, sm, tp, rb, e2, w⟩
    · cases e2
/-! ### list(range(n)), tuple(range(n)) -/
noncomputable def vLRg (own : Bool) (r : EvO) : EvV := fun env => (r env).bind fun p => (look p.2 p.1).bind fun d => (intOf d).bind fun n => ifP (RgOk 0 n) (some (if own then .own (.list (rngD 0 n.toNat)) else .val (.tuple (rngD 0 n.toNat)), p.2))
theorem rgV_rel {K : PySem.W.Frag} {F : Hp} {n : Int} : RelAll K F (rgV 0 n) (rngD 0 n.toNat) := by
  have e : (n - 0).toNat = n.toNat := by rw [Int.sub_zero]
  have h1 : rgV 0 n = ((List.range n.toNat).map fun i : Nat => (0 + (i : Int))).map V.int := by unfold rgV; rw [e, List.map_map]; rfl
  have h2 : rngD 0 n.toNat = ((List.range n.toNat).map fun i : Nat => (0 + (i : Int))).map PyData.int := by unfold rngD; rw [List.map_map]; rfl
  rw [h1, h2]
  exact RelAll.of_ints _
theorem rg_imp {own : Bool} {r : EvO} {σ : L2.St} {H : Hp} {Q : VK} (h : tV X.K (vLRg own r) σ H Q) : tRg1 (tO X.K r) σ H fun a b H1 => RgOk a b ∧ ∀ q, H1 q = none → Q (.ref q) (upd H1 q (if own then .lst (rgV a b) else .tup (rgV a b))) := by
  obtain ⟨F, env, fp, s, env', t, e1, q⟩ := h
  unfold vLRg at e1
  cases e2 : r env with
  | none => rw [e2] at e1; cases e1
  | some p =>
    obtain ⟨o, env1⟩ := p
    rw [e2] at e1
    cases e3 : look env1 o with
    | none => simp [e3] at e1
    | some d =>
      cases e4 : intOf d with
      | none => simp [e3, e4] at e1
      | some n =>
        simp only [e3, e4, Option.bind_some] at e1
        obtain ⟨z, e1⟩ := ifP_some e1
        cases e1
        cases intOf_some e4
        refine ⟨F, env, fp, o, _, t, e2, fun F1 H1 fp1 v s1 t1 o1 => ⟨n, (look_rel t1 o1 e3).int, z, fun p hp => ?_⟩⟩
        have w : Wants X.K F1 H1 (if own then .own (.list (rngD 0 n.toNat)) else .val (.tuple (rngD 0 n.toNat))) Q := fun F4 H4 v' f nw sl nd nn => by
          obtain ⟨t4, s4⟩ := t1.pushN nw sl nd nn
          exact q F4 H4 _ v' (s1.trans s4) t4
        cases own with
        | true => exact Wants.lst w t1.sub rgV_rel hp
        | false => exact Wants.tup w t1.sub rgV_rel hp
theorem pv_lrg {a : Expr} {r : EvO} {p p' pos' : Pos} (hc : X.calm = true) (hg : Gl X "list") (hm : X.mg "list" = none) (hg' : Gl X "range") (hm' : X.mg "range" = none) (ha : PE X a (tO X.K r)) (na : starEach [a] X.env = (false, eval a X.env) :: starEach [] X.env := by rfl)
    (nb : starEach [.Call (.Name "range" p') [a] [] pos'] X.env = (false, eval (.Call (.Name "range" p') [a] [] pos') X.env) :: starEach [] X.env := by rfl) :
    PE X (.Call (.Name "list" p) [.Call (.Name "range" p') [a] [] pos'] [] pos) (tV X.K (vLRg true r)) := (pe_listRg hc hg hm (prg_1 hg' hm' ha na) nb).weak fun σ H Q h => rg_imp h
theorem pv_trg {a : Expr} {r : EvO} {p p' pos' : Pos} (hc : X.calm = true) (hg : Gl X "tuple") (hm : X.mg "tuple" = none) (hg' : Gl X "range") (hm' : X.mg "range" = none) (ha : PE X a (tO X.K r)) (na : starEach [a] X.env = (false, eval a X.env) :: starEach [] X.env := by rfl)
    (nb : starEach [.Call (.Name "range" p') [a] [] pos'] X.env = (false, eval (.Call (.Name "range" p') [a] [] pos') X.env) :: starEach [] X.env := by rfl) :
    PE X (.Call (.Name "tuple" p) [.Call (.Name "range" p') [a] [] pos'] [] pos) (tV X.K (vLRg false r)) := (pe_tupRg hc hg hm (prg_1 hg' hm' ha na) nb).weak fun σ H Q h => rg_imp h
end
/-! ### keywords -/
def prm {α : Type} (perm : List Nat) (l : List α) : List α := perm.filterMap fun i => l[i]?
def gK {α : Type} (n m : Nat) (perm : List Nat) (us ws : List α) : List α := if us.length = n ∧ ws.length = m then prm perm (us ++ ws) else []
theorem vals_prm {vs : List V} {us : List Value} (h : Vals vs us) : ∀ perm : List Nat, Vals (prm perm vs) (prm perm us)
  | [] => .nil
  | i :: perm => by
    unfold prm
    have hl := h.length
    cases e : vs[i]? with
    | none =>
      rw [List.filterMap_cons_none e, List.filterMap_cons_none (by rw [List.getElem?_eq_none_iff] at e ⊢; omega)]
      exact vals_prm h perm
    | some v =>
      obtain ⟨u, hu, r⟩ := h.get e
      rw [List.filterMap_cons_some e, List.filterMap_cons_some hu]
      exact .cons r (vals_prm h perm)
theorem opds_prm {K : PySem.W.Frag} {F : Hp} {σ : L2.St} {os : List Opd} {vs : List V} (h : OpdsR K F σ os vs) : ∀ perm : List Nat, OpdsR K F σ (prm perm os) (prm perm vs)
  | [] => .nil
  | i :: perm => by
    have get : ∀ {os : List Opd} {vs : List V} {i : Nat}, OpdsR K F σ os vs → (os[i]? = none ∧ vs[i]? = none) ∨ ∃ o v, os[i]? = some o ∧ vs[i]? = some v ∧ OpdR K F σ o v := by
      intro os vs i h
      induction h generalizing i with
      | nil => exact .inl ⟨by simp, by simp⟩
      | @cons o v os vs h _ ih => cases i with
        | zero => exact .inr ⟨o, v, rfl, rfl, h⟩
        | succ i => simpa using ih
    unfold prm
    rcases get (i := i) h with ⟨e1, e2⟩ | ⟨o, v, e1, e2, r⟩
    · rw [List.filterMap_cons_none e1, List.filterMap_cons_none e2]
      exact opds_prm h perm
    · rw [List.filterMap_cons_some e1, List.filterMap_cons_some e2]
      exact .cons r (opds_prm h perm)
theorem OpdsR.app {K : PySem.W.Frag} {F : Hp} {σ : L2.St} {os os' : List Opd} {vs vs' : List V} (h : OpdsR K F σ os vs) (h' : OpdsR K F σ os' vs') : OpdsR K F σ (os ++ os') (vs ++ vs') := by
  induction h with
  | nil => exact h'
  | cons h _ ih => exact .cons h ih
def rowK (n m : Nat) (perm : List Nat) (rs rk : EvOs) : EvOs := fun env => (rs env).bind fun p => (rk p.2).bind fun q => if p.1.length = n ∧ q.1.length = m then some (prm perm (p.1 ++ q.1), q.2) else none
theorem rowK_imp {K : PySem.W.Frag} {n m : Nat} {perm : List Nat} {rs rk : EvOs} {σ : L2.St} {H : Hp} {Q : List V → Hp → Prop} (h : tOs K (rowK n m perm rs rk) σ H Q) : tOs K rs σ H fun vs H1 => tOs K rk σ H1 fun zs H2 => Q (gK n m perm vs zs) H2 := by
  obtain ⟨F, env, fp, os, env', t, e1, q⟩ := h
  unfold rowK at e1
  cases e2 : rs env with
  | none => rw [e2] at e1; cases e1
  | some p =>
    obtain ⟨os1, env1⟩ := p
    cases e3 : rk env1 with
    | none => simp [e2, e3] at e1
    | some p3 =>
      obtain ⟨os2, env2⟩ := p3
      simp only [e2, e3, Option.bind_some] at e1
      split at e1
      · rename_i hl
        cases e1
        refine ⟨F, env, fp, os1, env1, t, e2, fun F1 H1 fp1 vs s1 t1 o1 => ?_⟩
        refine ⟨F1, env1, fp1, os2, _, t1, e3, fun F2 H2 fp2 zs s2 t2 o2 => ?_⟩
        have o1' := o1.mono s2.fz
        have e : gK n m perm vs zs = prm perm (vs ++ zs) := if_pos ⟨by rw [← o1.length]; exact hl.1, by rw [← o2.length]; exact hl.2⟩
        show Q (gK n m perm vs zs) H2
        rw [e]
        exact q F2 H2 fp2 _ (s1.trans s2) t2 (opds_prm (o1'.app o2) perm)
      · cases e1
theorem kbinds_of {K : PySem.W.Frag} {x qual : Str} {st : Stmt} {f : Addr} {fd : FuncData} {ps ks : List Str} {n m : Nat} {perm : List Nat} (F : Fun K x qual st f fd) (hps : ps ≠ [])
    (h : ∀ (kV doc pm : Value) (an : Option Addr) (cdv ct : Value) (us ws : List Value), us.length = n → ws.length = m → bindArgs (PySem.W.fnOf x qual (defArgs st) (defBody st) (defScope st) .none kV doc pm an cdv ct) ⟨us, ks.zip ws⟩ = pure (ps.zip (prm perm (us ++ ws)))) :
    KBinds K fd ps ks (gK n m perm) (gK n m perm) := by
  obtain ⟨oc, od, kV, doc, pm, an, cdv, ct, osl, rfl, lk, hcd⟩ := F.ex
  refine ⟨fun s us ws _ hl => ?_, fun {vs us zs ws} r1 r2 => ?_⟩
  · by_cases hh : us.length = n ∧ ws.length = m
    · have e : gK n m perm us ws = prm perm (us ++ ws) := if_pos hh
      rw [e]
      exact .of_eq (h kV doc pm an cdv ct us ws hh.1 hh.2)
    · have e : gK n m perm us ws = [] := if_neg hh
      rw [e] at hl
      exact absurd (List.length_eq_zero_iff.mp hl.symm) hps
  · unfold gK
    rw [r1.length, r2.length]
    split
    · exact vals_prm (r1.append r2) perm
    · exact .nil
section
variable {X : Cx} {x : Str} {p pos : Pos} {e : Expr} {es : List Expr} {k : Nat} {f : Addr} {fd : FuncData} {ps ks : List Str} {m : List Bool} {G : EvF} {rs rk : EvOs} {kws : List Keyword} {n n' : Nat} {perm : List Nat}
theorem pk_none : PK X [] (tOs X.K nilO) := ⟨fun pos pins s σ H Q I w => pk_nil.run pos pins s σ H Q I (nilO_imp w)⟩
theorem pk_one {nm : Option Str} {kpos : Pos} {r : EvO} (ha : PE X e (tO X.K r)) (hr : PK X kws (tOs X.K rk)) : PK X (⟨nm, e, kpos⟩ :: kws) (tOs X.K (consO r rk)) := ⟨fun pos pins s σ H Q I w => (pk_cons ha hr).run pos pins s σ H Q I (consO_imp w)⟩
theorem callK_imp {E : XK} {σ : L2.St} {H : Hp} {Q : VK} (hl : m.length = ps.length) (h : tV X.K (callF m G (rowK n n' perm rs rk)) σ H Q) : tCallK (spOf X.K ps.length G) (gK n n' perm) E (tOs X.K rs) (tOs X.K rk) σ H Q := by
  have h1 : tOs X.K (rowK n n' perm rs rk) σ H fun vs H1 => spOf X.K ps.length G (vs ++ []) H1 Q E := callF_imp hl h
  have h2 := rowK_imp h1
  obtain ⟨F, env, fp, os, env', t, e1, q⟩ := h2
  refine ⟨F, env, fp, os, env', t, e1, fun F1 H1 fp1 vs s1 t1 o1 => ?_⟩
  obtain ⟨F, env, fp, os, env', t, e1, q⟩ := q F1 H1 fp1 vs s1 t1 o1
  refine ⟨F, env, fp, os, env', t, e1, fun F1 H1 fp1 vs s1 t1 o1 => ?_⟩
  have h3 := q F1 H1 fp1 vs s1 t1 o1
  simp only [List.append_nil] at h3
  exact h3
theorem pv_callK (F : FnOk X.prog X.w X.K X.mg X.base CX0 k f fd ps (spOf X.K ps.length G)) (hr : Room k X.A) (hg : Gl X x) (hm : X.mg x = some (.ref f)) (hk : PySem.W.keepIn X.K (.ref f) = true) (hb : KBinds X.K fd ps ks (gK n n' perm) (gK n n' perm)) (hl : m.length = ps.length)
    (ha : PA X (e :: es) (tOs X.K rs)) (hkw : PK X kws (tOs X.K rk)) (hall : (backToKw pos (keywordEach kws X.env)).all (·.1.isSome) = true := by rfl) (hks : (backToKw pos (keywordEach kws X.env)).filterMap (·.1) = ks := by rfl)
    (hdb : (x == ("__debug__" : Str)) = false := by decide) (he : starEach (e :: es) X.env = (false, eval e X.env) :: starEach es X.env := by rfl)
    (hpl : ((backTo pos (starEach (e :: es) X.env)).any (·.1) || (backToKw pos (keywordEach kws X.env)).any (·.1.isNone)) = false := by rfl) :
    PE X (.Call (.Name x p) (e :: es) kws pos) (tV X.K (callF m G (rowK n n' perm rs rk))) := (pe_callK (E := E0) F hr hg hm hk hb pass0 ha hkw hall hks hdb he hpl).weak fun _ _ _ => callK_imp hl
theorem pv_callK0 (F : FnOk X.prog X.w X.K X.mg X.base CX0 k f fd ps (spOf X.K ps.length G)) (hr : Room k X.A) (hg : Gl X x) (hm : X.mg x = some (.ref f)) (hk : PySem.W.keepIn X.K (.ref f) = true) (hb : KBinds X.K fd ps ks (gK n n' perm) (gK n n' perm)) (hl : m.length = ps.length)
    (hkw : PK X kws (tOs X.K rk)) (hall : (backToKw pos (keywordEach kws X.env)).all (·.1.isSome) = true := by rfl) (hks : (backToKw pos (keywordEach kws X.env)).filterMap (·.1) = ks := by rfl)
    (hdb : (x == ("__debug__" : Str)) = false := by decide) (hpl : ((backTo pos (starEach [] X.env)).any (·.1) || (backToKw pos (keywordEach kws X.env)).any (·.1.isNone)) = false := by rfl) :
    PE X (.Call (.Name x p) [] kws pos) (tV X.K (callF m G (rowK n n' perm nilO rk))) := by
  refine ⟨fun pins s σ H Q I h => ?_⟩
  have h := callK_imp (E := E0) hl h
  have h : tOs X.K nilO σ H fun vs H1 => tOs X.K rk σ H1 fun zs H2 => spOf X.K ps.length G (gK n n' perm vs zs) H2 Q E0 := h
  have h := nilO_imp h
  refine wpAny_Call_Name_kw (ld_glob I hg hm ?_ hdb)
  refine PySem.W.callWith_KW0 (h₀ := X.base) I.ok.mod.kin hk hall ?_ hpl
  refine thn (hkw.run pos pins s σ H _ I h) fun ws s2 ⟨zs, H2, I2, rz, q2⟩ => ⟨I2.kIn, ?_⟩
  rw [hks]
  exact run_fnk (us := []) (vs := []) F hr hb pass0 I2 .nil rz q2
end
end Pf
/-! PfR: defs bundled; the source of draws. -/
namespace Pf
open L2 PyProof.Rows PySem PySem.Spec
structure Callee (P : Program) (w : World) (K : PySem.W.Frag) (mg : Str → Option Value) (base : Heap) (x : Str) (st : Stmt) (k : Nat) (ps : List Str) (G : EvF) : Prop where
  ex : ∃ f fd, Fun K x x st f fd ∧ FnOk P w K mg base CX0 k f fd ps (spOf K ps.length G) ∧ mg x = some (.ref f) ∧ Binds K fd ps []
section
variable {P : Program} {w : World} {K : PySem.W.Frag} {mg : Str → Option Value} {base : Heap} {x : Str} {st : Stmt} {j k : Nat} {ps : List Str} {G : EvF}
theorem Callee.mono (c : Callee P w K mg base x st j ps G) (h : j ≤ k) : Callee P w K mg base x st k ps G := by
  obtain ⟨f, fd, h1, h2, h3, h4⟩ := c.ex
  exact ⟨f, fd, h1, h2.mono h, h3, h4⟩
/-- a def as it stands -/
structure Stands (K : PySem.W.Frag) (mg : Str → Option Value) (x : Str) (st : Stmt) (ps : List Str) : Prop where
  ex : ∃ f fd, Fun K x x st f fd ∧ mg x = some (.ref f) ∧ Binds K fd ps []
theorem Stands.callee {N : List Str} {m : List Bool} {body : EvS} (c : Stands K mg x st ps) (S : FnScope N ps (defScope st)) (hm : m.length = ps.length)
    (h : ∀ (f : Addr) (cdv : Value) (A : Around) (outer : List Env) (s : Shared) (H : Hp) (E : XK), Room k (A.deeper (envOfC x (defScope st) s.heap.objs.size f cdv)) → PSs (cxOf CX0 P w K mg base N x (defScope st) f cdv A outer s H E).nox (defBody st) (tS K (pnOf m) body)) :
    Callee P w K mg base x st (k + 1) ps (defE N.length m body) := by
  obtain ⟨f, fd, h1, h2, h3⟩ := c.ex
  exact ⟨f, fd, h1, def_ok h1 S hm (h f), h2, h3⟩
/-- a def whose evaluator never answers -/
theorem Stands.callee0 (c : Stands K mg x st ps) : Callee P w K mg base x st k ps (fun _ => none) := by
  obtain ⟨f, fd, h1, h2, h3⟩ := c.ex
  refine ⟨f, fd, h1, ⟨fun vs H Q E h => h.1, fun A outer s H args us vs Q E _ _ _ _ h => ?_⟩, h2, h3⟩
  obtain ⟨_, _, _, _, _, _, _, e, _⟩ := h
  cases e
theorem stands_mk {f : Addr} {oc : Value} {od an : Option Addr} {osl : Array (Option Value)} {kV doc pm cdv ct : Value} {h : Heap} (X : K.In h) (G : h.Ns mainGlobals mg)
    (a : PySem.W.nsIn K mainGlobals x = some (some (.ref f))) (l : K.lookup f = some ⟨oc, od, .func (PySem.W.fnOf x x (defArgs st) (defBody st) (defScope st) .none kV doc pm an cdv ct), osl⟩) (c : PySem.W.codeIn K cdv x = true) (kp : PySem.W.keepIn K (.ref f) = true)
    (b : ∀ (kV doc pm : Value) (an : Option Addr) (cdv ct : Value) (us : List Value), us.length = ps.length → bindArgs (PySem.W.fnOf x x (defArgs st) (defBody st) (defScope st) .none kV doc pm an cdv ct) ⟨us, []⟩ = pure (ps.zip us)) : Stands K mg x st ps := by
  have F := fun_mk (st := st) l c kp
  exact ⟨f, _, F, PySem.W.mg_of X G a, F.binds b⟩
end
section
variable {X : Cx} {x : Str} {st : Stmt} {p pos : Pos} {e : Expr} {es : List Expr} {k : Nat} {ps ks : List Str} {m : List Bool} {G : EvF} {rs rk : EvOs} {kws : List Keyword} {n n' : Nat} {perm : List Nat}
theorem pc_call (C : Callee X.prog X.w X.K X.mg X.base x st k ps G) (hr : Room k X.A) (hg : Gl X x) (hl : m.length = ps.length) (ha : PA X (e :: es) (tOs X.K rs)) (hdb : (x == ("__debug__" : Str)) = false := by decide) (he : starEach (e :: es) X.env = (false, eval e X.env) :: starEach es X.env := by rfl) (hpl : (backTo pos (starEach es X.env)).any (·.1) = false := by rfl) :
    PE X (.Call (.Name x p) (e :: es) [] pos) (tV X.K (callF m G rs)) := by
  obtain ⟨f, fd, h1, h2, h3, h4⟩ := C.ex
  exact pv_call h2 hr hg h3 h1.kp h4 hl ha hdb he hpl
theorem pc_callB (C : Callee X.prog X.w X.K X.mg X.base x st k ps G) (hr : Room k X.A) (hg : Gl X x) (hl : m.length = ps.length) (ha : PA X (e :: es) (tOs X.K rs)) (hdb : (x == ("__debug__" : Str)) = false := by decide) (he : starEach (e :: es) X.env = (false, eval e X.env) :: starEach es X.env := by rfl) (hpl : (backTo pos (starEach es X.env)).any (·.1) = false := by rfl) :
    PE X (.Call (.Name x p) (e :: es) [] pos) (tV X.K (callB m G rs)) := by
  obtain ⟨f, fd, h1, h2, h3, h4⟩ := C.ex
  exact pv_callB' h2 hr hg h3 h1.kp h4 hl ha hdb he hpl
theorem pc_callK (C : Callee X.prog X.w X.K X.mg X.base x st k ps G) (hr : Room k X.A) (hg : Gl X x) (hl : m.length = ps.length) (hps : ps ≠ [])
    (hb : ∀ (kV doc pm : Value) (an : Option Addr) (cdv ct : Value) (us ws : List Value), us.length = n → ws.length = n' → bindArgs (PySem.W.fnOf x x (defArgs st) (defBody st) (defScope st) .none kV doc pm an cdv ct) ⟨us, ks.zip ws⟩ = pure (ps.zip (prm perm (us ++ ws))))
    (ha : PA X (e :: es) (tOs X.K rs)) (hkw : PK X kws (tOs X.K rk)) (hall : (backToKw pos (keywordEach kws X.env)).all (·.1.isSome) = true := by rfl) (hks : (backToKw pos (keywordEach kws X.env)).filterMap (·.1) = ks := by rfl)
    (hdb : (x == ("__debug__" : Str)) = false := by decide) (he : starEach (e :: es) X.env = (false, eval e X.env) :: starEach es X.env := by rfl)
    (hpl : ((backTo pos (starEach (e :: es) X.env)).any (·.1) || (backToKw pos (keywordEach kws X.env)).any (·.1.isNone)) = false := by rfl) :
    PE X (.Call (.Name x p) (e :: es) kws pos) (tV X.K (callF m G (rowK n n' perm rs rk))) := by
  obtain ⟨f, fd, h1, h2, h3, h4⟩ := C.ex
  exact pv_callK h2 hr hg h3 h1.kp (kbinds_of h1 hps hb) hl ha hkw hall hks hdb he hpl
theorem pc_callK0 (C : Callee X.prog X.w X.K X.mg X.base x st k ps G) (hr : Room k X.A) (hg : Gl X x) (hl : m.length = ps.length) (hps : ps ≠ [])
    (hb : ∀ (kV doc pm : Value) (an : Option Addr) (cdv ct : Value) (us ws : List Value), us.length = 0 → ws.length = n' → bindArgs (PySem.W.fnOf x x (defArgs st) (defBody st) (defScope st) .none kV doc pm an cdv ct) ⟨us, ks.zip ws⟩ = pure (ps.zip (prm perm (us ++ ws))))
    (hkw : PK X kws (tOs X.K rk)) (hall : (backToKw pos (keywordEach kws X.env)).all (·.1.isSome) = true := by rfl) (hks : (backToKw pos (keywordEach kws X.env)).filterMap (·.1) = ks := by rfl)
    (hdb : (x == ("__debug__" : Str)) = false := by decide) (hpl : ((backTo pos (starEach [] X.env)).any (·.1) || (backToKw pos (keywordEach kws X.env)).any (·.1.isNone)) = false := by rfl) :
    PE X (.Call (.Name x p) [] kws pos) (tV X.K (callF m G (rowK 0 n' perm nilO rk))) := by
  obtain ⟨f, fd, h1, h2, h3, h4⟩ := C.ex
  exact pv_callK0 h2 hr hg h3 h1.kp (kbinds_of h1 hps hb) hl hkw hall hks hdb hpl
theorem hu_room {A : Around} (hr : Room k A) : A.units + 200 < cLine := by have := hr.un; omega
theorem hu_room1 {A : Around} (hr : Room k A) : A.units + 1 < cLine := by have := hr.un; omega
end
/-! ### [cells, blend] -/
def intsOf' : List PyData → Option (List Int)
  | [] => some []
  | d :: ds => (intOf d).bind fun i => (intsOf' ds).bind fun is => some (i :: is)
theorem intsOf'_some : ∀ {ds : List PyData} {is : List Int}, intsOf' ds = some is → ds = is.map PyData.int
  | [], _, h => by cases h; rfl
  | d :: ds, is, h => by
    unfold intsOf' at h
    cases e1 : intOf d with
    | none => rw [e1] at h; cases h
    | some i =>
      rw [e1] at h
      cases e2 : intsOf' ds with
      | none => simp [e2] at h
      | some is' =>
        simp [e2] at h
        subst h
        rw [intOf_some e1, intsOf'_some e2]
        rfl
def dealS (s : Slot) (d : PyData) : Option Slot := match s with
  | .own (.list ds) => (intsOf' ds).bind fun is => (intOf d).bind fun b => some (.deal is b)
  | _ => none
def vDeal (r : EvV) (r' : EvO) : EvV := fun env => (r env).bind fun p => (r' p.2).bind fun q => (look q.2 q.1).bind fun d => (dealS p.1 d).bind fun s => some (s, q.2)
section
variable {X : Cx} {a b : Expr} {pos : Pos}
theorem pv_deal {r : EvV} {r' : EvO} (ha : PE X a (tV X.K r)) (hb : PE X b (tO X.K r')) (hs1 : starEach [a, b] X.env = (false, eval a X.env) :: starEach [b] X.env := by rfl) (hs2 : starEach [b] X.env = (false, eval b X.env) :: starEach [] X.env := by rfl) : PE X (.List [a, b] pos) (tV X.K (vDeal r r')) :=
  (pe_lst (pa_cons ha (pa_cons hb pa_nil hs2) hs1)).weak fun σ H Q h => by
    obtain ⟨F, env, fp, s, env', t, e1, q⟩ := h
    unfold vDeal at e1
    cases e2 : r env with
    | none => rw [e2] at e1; cases e1
    | some p =>
      obtain ⟨s1, env1⟩ := p
      cases e3 : r' env1 with
      | none => simp [e2, e3] at e1
      | some p3 =>
        obtain ⟨o, env2⟩ := p3
        cases e4 : look env2 o with
        | none => simp [e2, e3, e4] at e1
        | some d =>
          cases e5 : dealS s1 d with
          | none => simp [e2, e3, e4, e5] at e1
          | some s5 =>
            simp [e2, e3, e4, e5] at e1
            obtain ⟨rfl, rfl⟩ := e1
            unfold dealS at e5
            split at e5
            · rename_i ds
              cases e6 : intsOf' ds with
              | none => rw [e6] at e5; cases e5
              | some is =>
                cases e7 : intOf d with
                | none => simp [e6, e7] at e5
                | some bb =>
                  simp [e6, e7] at e5
                  subst e5
                  have e8 := intsOf'_some e6
                  subst e8
                  cases intOf_some e7
                  refine ⟨F, env, fp, _, env1, t, e2, fun F1 H1 fp1 v s1 t1 => ?_⟩
                  obtain ⟨f1, f2, rfl, as, t1'⟩ := Stt.cut (e1 := [.own (.list (is.map .int))]) (s1 := [some v]) rfl t1
                  refine ⟨F1, env1, f2, o, _, t1', e3, fun F2 H2 fp2 u s2 t2 o2 => ?_⟩
                  have eu := (look_rel t2 o2 e4).int
                  subst eu
                  have as2 := as.step s2 t2.sub
                  refine ⟨by rw [sizeLine_eq]; exact (by decide : 2 ≤ 16777216), fun p hp => ?_⟩
                  obtain ⟨rel, nd, out, ap⟩ := as2
                  cases rel with
                  | cons h r =>
                    cases r
                    cases h with
                    | @own _ c ow =>
                      obtain ⟨xs, g1, g2⟩ := own_list ow
                      have ex := g2.ints
                      subst ex
                      have cp : c ≠ p := ne_of_none g1 hp
                      have cn : c ∉ fp2 := ap c (by simp)
                      have pn : p ∉ fp2 := fun m => by
                        obtain ⟨w, e⟩ := t2.there p m
                        rw [hp] at e; cases e
                      have fP : F2 p = none := same_none t2.sub hp
                      have t3 : Stt X.K F2 (upd H2 p (.lst [.ref c, .int bb])) _ σ fp2 := t2.aside fP pn (fun _ z => nomatch z)
                      have tz := t3.push (s := .deal is bb) (v := .ref p) (f := [p, c]) (.deal upd_same ((upd_ne cp).trans g1)) (by simp [Ne.symm cp]) (fun a m => by
                        rcases List.mem_cons.mp m with z | m
                        · rw [z]; exact pn
                        · rw [List.mem_singleton.mp m]; exact cn) (fun a m => by
                        rcases List.mem_cons.mp m with z | m
                        · rw [z]; exact fP
                        · rw [List.mem_singleton.mp m]; exact out c (by simp))
                      refine q F2 _ _ (.ref p) (s1.trans ?_) tz
                      have sw := (s2.wide [c]).aside (u := .lst [.ref c, .int bb]) (D := p)
                      have sw2 : Step F1 H1 ([c] ++ f2) F2 H2 ([c] ++ fp2) := s2.wide [c]
                      have hp1 : ∀ z, H1 p ≠ some z ∨ p ∈ [c] ++ f2 := fun z => by
                        by_cases m : p ∈ [c] ++ f2
                        · exact .inr m
                        · exact .inl fun e => by
                            rw [sw2.keep p z e m] at hp; cases hp
                      refine ⟨sw2.fz, fun b' o' e n => ?_, sw2.newF, fun b' m => ?_⟩
                      · have nb : b' ≠ p := fun z => by
                          subst z
                          rcases hp1 o' with z | z
                          · exact z e
                          · exact n (by simpa using z)
                        rw [upd_ne nb]
                        exact sw2.keep b' o' e (by simpa using n)
                      · rcases List.mem_append.mp m with m | m
                        · rcases List.mem_cons.mp m with z | m
                          · subst z
                            by_cases m2 : b' ∈ [c] ++ f2
                            · exact .inl (by simpa using m2)
                            · refine .inr ?_
                              cases e : H1 b' with
                              | none => rfl
                              | some o' => rw [sw2.keep b' o' e m2] at hp; cases hp
                          · exact .inl (by rw [List.mem_singleton.mp m]; simp)
                        · rcases sw2.newP b' (List.mem_append_right _ m) with z | z
                          · exact .inl (by simpa using z)
                          · exact .inr z
            · cases e5
end
end Pf
/-! PfS: the law's number below a bound (its _law_any). -/
namespace Pf
open L2 PyProof.Rows PySem PySem.Spec
/-- zeros at the end dropped -/
def trim (cs : List Int) : List Int := (cs.reverse.dropWhile (· == 0)).reverse
theorem trim_zero (cs : List Int) : trim (cs ++ [0]) = trim cs := by simp [trim]
theorem trim_last {cs : List Int} {c : Int} (h : c ≠ 0) : trim (cs ++ [c]) = cs ++ [c] := by simp [trim, h]
theorem trim_nil : trim [] = [] := rfl
def rndB (b : Int) : Int := (b * 40693 + 71) % 2147483647
/-- what is told, and the source behind it -/
def anyV (cs : List Int) (b n : Int) : Int × List Int × Int := match (trim cs).getLast? with
  | some r => (r % n, (trim cs).dropLast ++ [r / n], b)
  | none => (rndB b / 64 % n, [], rndB b)
def AnyOk (cs : List Int) (b n : Int) : Prop := 0 < n ∧ n.natAbs.log2 < 9000 ∧ 0 ≤ b ∧ b < 2147483647 ∧ Fits cs.length
noncomputable def anyF : EvF
  | [.deal cs b, .val (.int n)] => ifP (AnyOk cs b n) (some (.val (.int (anyV cs b n).1), [.deal (anyV cs b n).2.1 (anyV cs b n).2.2, .no]))
  | _ => none
def tD0 (K : PySem.W.Frag) : TE := tOp (rIxL K) (tVar 0) (tC (.int 0))
def tD1 (K : PySem.W.Frag) : TE := tOp (rIxL K) (tVar 0) (tC (.int 1))
def tNe0 (K : PySem.W.Frag) : TT := tTest (tOp (rNeD K) (tD0 K) (tLst tNil))
def tZero (K : PySem.W.Frag) : TT := tTest (tOp rEq (tOp (rIxL K) (tD0 K) (tUn (rU fun i => .int (-i)) (tC (.int 1)))) (tC (.int 0)))
def rInt1 : List V → Hp → VK → Prop := fun xs H Q => (∃ i, xs = [.int i] ∧ Q (.int i) H) ∨ ∃ k, xs = [.bl k] ∧ Q (.int (if k then 1 else 0)) H
def tAnyA (K : PySem.W.Frag) : TS := tSeq (tAsg (tCB rInt1 (tCons (tBM0 K "list" rPop (tD0 K)) tNil)) (gName 2))
  (tSeq (tDrop (tBM K "list" rAppend (tD0 K) (tCons (tOp (rI CDivW fun i j => .int (i / j)) (tVar 2) (tVar 1)) tNil))) (tRet (tOp (rI (fun _ j => 0 < j) fun i j => .int (i % j)) (tVar 2) (tVar 1))))
def tAnyB (K : PySem.W.Frag) : TS := tSeq (tAsg (tOp (rI (fun _ j => 0 < j) fun i j => .int (i % j)) (tCB rInt1 (tCons (tOp (rI0 fun i j => .int (i + j)) (tOp (rI CMulW fun i j => .int (i * j)) (tD1 K) (tC (.int 40693))) (tC (.int 71))) tNil)) (tC (.int 2147483647))) (L2.gSub (tVar 0) (tC (.int 1)) rSetL))
  (tRet (tOp (rI (fun _ j => 0 < j) fun i j => .int (i % j)) (tCB rInt1 (tCons (tOp (rI CDivW fun i j => .int (i / j)) (tD1 K) (tC (.int 64))) tNil)) (tVar 1)))
def tAnyR (K : PySem.W.Frag) : TS := tSeq (tIfS (tNe0 K) (tAnyA K) tNext) (tAnyB K)
def tAny (K : PySem.W.Frag) : TS := tSeq (tWhile (tAnd (tNe0 K) (tZero K)) (tDrop (tBM0 K "list" rPop (tD0 K)))) (tAnyR K)
/-- the heap while it runs -/
structure AnyP (F H : Hp) (a c : Addr) (cs : List Int) (b : Int) (H' : Hp) : Prop where
  top : H' a = some (.lst [.ref c, .int b])
  cel : H' c = some (.lst (cs.map .int))
  keep : ∀ z o, H z = some o → z ≠ a → z ≠ c → H' z = some o
  tup : Tups F H'
section
variable {K : PySem.W.Frag} {F H H' : Hp} {a c : Addr} {cs : List Int} {b n : Int} {σ : L2.St}
theorem AnyP.fresh {p : Addr} {u : HO} (P : AnyP F H a c cs b H') (hp : H' p = none) (nt : ∀ xs, u ≠ .tup xs) : AnyP F H a c cs b (upd H' p u) where
  top := by rw [upd_ne (ne_of_none P.top hp)]; exact P.top
  cel := by rw [upd_ne (ne_of_none P.cel hp)]; exact P.cel
  keep := fun z o h1 h2 h3 => by rw [upd_ne (ne_of_none (P.keep z o h1 h2 h3) hp)]; exact P.keep z o h1 h2 h3
  tup := fun z xs e => by
    by_cases hz : z = p
    · subst hz; rw [upd_same] at e; exact absurd (Option.some.inj e) (nt xs)
    · rw [upd_ne hz] at e; exact P.tup z xs e
theorem AnyP.cells (P : AnyP F H a c cs b H') (hac : a ≠ c) (cs' : List Int) : AnyP F H a c cs' b (upd H' c (.lst (cs'.map .int))) where
  top := by rw [upd_ne hac]; exact P.top
  cel := upd_same
  keep := fun z o h1 h2 h3 => by rw [upd_ne h3]; exact P.keep z o h1 h2 h3
  tup := fun z xs e => by
    by_cases hz : z = c
    · subst hz; rw [upd_same] at e; cases e
    · rw [upd_ne hz] at e; exact P.tup z xs e
theorem AnyP.blend (P : AnyP F H a c cs b H') (hac : a ≠ c) (b' : Int) : AnyP F H a c cs b' (upd H' a (.lst [.ref c, .int b'])) where
  top := upd_same
  cel := by rw [upd_ne (Ne.symm hac)]; exact P.cel
  keep := fun z o h1 h2 h3 => by rw [upd_ne h2]; exact P.keep z o h1 h2 h3
  tup := fun z xs e => by
    by_cases hz : z = a
    · subst hz; rw [upd_same] at e; cases e
    · rw [upd_ne hz] at e; exact P.tup z xs e
theorem at_d0 (P : AnyP F H a c cs b H') (h0 : σ[0]? = some (some (.ref a))) {Q : VK} (q : Q (.ref c) H') : tD0 K σ H' Q := ⟨_, h0, a, _, 0, .ref c, rfl, rfl, .inl (.inl P.top), rfl, q⟩
theorem at_d1 (P : AnyP F H a c cs b H') (h0 : σ[0]? = some (some (.ref a))) {Q : VK} (q : Q (.int b) H') : tD1 K σ H' Q := ⟨_, h0, a, _, 1, .int b, rfl, rfl, .inl (.inl P.top), rfl, q⟩
theorem canLay_ints : ∀ cs : List Int, PyData.canLayAll0 (cs.map .int) = true
  | [] => by simp [PyData.canLayAll0]
  | c :: cs => by simp [PyData.canLayAll0, PyData.canLay0, canLay_ints cs]
theorem depth_ints : ∀ cs : List Int, PyData.depthAll (cs.map .int) ≤ 1
  | [] => by simp [PyData.depthAll]
  | c :: cs => by
    have := depth_ints cs
    simp only [List.map_cons, PyData.depthAll, PyData.depth]
    omega
theorem shaped_ints (cs : List Int) (h : cs.length ≤ 16777216) : SeqAt.shaped (.list (cs.map .int)) = true := by
  unfold SeqAt.shaped
  rw [Bool.and_eq_true]
  have h1 := depth_ints cs
  have h2 := canLay_ints cs
  constructor
  · simp [PyData.canLay0, h2]
  · simp only [PyData.depth]
    exact decide_eq_true (by omega)
theorem dp_ints : ∀ cs : List Int, DpAll K H' (cs.map .int) (cs.map PyData.int)
  | [] => .nil
  | c :: cs => .cons (.int c) (dp_ints cs)
theorem eqv_nil (cs : List Int) : PyData.eqv (.list (cs.map .int)) (.list []) = decide (cs = []) := by
  cases cs with
  | nil => simp [PyData.eqv, PyData.eqvAll]
  | cons c cs => simp [PyData.eqv, PyData.eqvAll]
theorem at_ne0 (P : AnyP F H a c cs b H') (hf : Fits cs.length) (h0 : σ[0]? = some (some (.ref a))) {Q : Bool → Hp → Prop} (q : ∀ H2, AnyP F H a c cs b H2 → Q (!decide (cs = [])) H2) : tNe0 K σ H' Q := by
  refine at_d0 P h0 ⟨Nat.zero_le _, fun p hp => ?_⟩
  have P2 := P.fresh (u := .lst []) hp (fun _ z => nomatch z)
  refine ⟨.list (cs.map .int), .list [], .lst (.inl (.inl P2.cel)) (dp_ints cs), .lst (.inl (.inl upd_same)) .nil, shaped_ints cs hf, shaped_ints [] (by decide), _, rfl, ?_⟩
  rw [eqv_nil]
  exact q _ P2
theorem at_zero {l : Int} (P : AnyP F H a c (cs ++ [l]) b H') (h0 : σ[0]? = some (some (.ref a))) {Q : Bool → Hp → Prop} (q : Q (decide (l = 0)) H') : tZero K σ H' Q := by
  refine at_d0 P h0 ⟨1, rfl, c, (cs ++ [l]).map .int, -1, .int l, rfl, rfl, .inl (.inl P.cel), ?_, ?_⟩
  · rw [List.map_append, List.map_singleton]; exact atI_last _ _
  · refine ⟨rfl, _, rfl, ?_⟩
    have : decide (V.int l = V.int 0) = decide (l = 0) := by simp
    rw [this]
    exact q
theorem pop_at {l : Int} (P : AnyP F H a c (cs ++ [l]) b H') (hac : a ≠ c) (h0 : σ[0]? = some (some (.ref a))) {Q : VK} (q : ∀ H2, AnyP F H a c cs b H2 → Q (.int l) H2) : tBM0 K "list" rPop (tD0 K) σ H' Q := by
  refine at_d0 P h0 ⟨.inl ⟨rfl, _, .inl (.inl P.cel)⟩, c, _, .int l, rfl, rfl, P.cel, ?_, ?_⟩
  · simp
  · have e : ((cs ++ [l]).map V.int).dropLast = cs.map V.int := by simp
    rw [e]
    exact q _ (P.cells hac cs)
end
theorem any_imp {K : PySem.W.Frag} {vs : List V} {H : Hp} {Q : VK} {E : XK} (h : spOf K 2 anyF vs H Q E) : tAny K { nx := fun _ H' => Q .non H', rt := Q } (L2.start ["deal", "bound", "rest"] vs) H := by
  obtain ⟨hl, F, args, fp, s, outs, t, e, q⟩ := h
  unfold anyF at e
  split at e
  · rename_i cs b n
    obtain ⟨⟨hn, hn2, hb0, hb1, hfit⟩, e⟩ := ifP_some e
    cases e
    -- the two arguments
    match vs, hl with
    | [v1, v2], _ =>
    have rel := t.rel
    have nd := t.nd
    have out := t.out
    cases rel with
    | cons r1 rr =>
      cases rr with
      | cons r2 rr =>
        cases rr
        cases r2 with
        | val r2 =>
          cases r2
          cases r1 with
          | @deal _ _ a c g1 g2 =>
            have hac : a ≠ c := by
              have : (a :: [c]).Nodup := by simpa using nd
              exact fun z => (List.nodup_cons.mp this).1 (by simp [z])
            have Fa : F a = none := out a (by simp)
            have Fc : F c = none := out c (by simp)
            have P0 : AnyP F H a c cs b H := ⟨g1, g2, fun _ _ h _ _ => h, t.tup⟩
            -- the end
            have fin : ∀ {r : Int} {cs' : List Int} {b' : Int} {H' : Hp}, AnyP F H a c cs' b' H' → anyV cs b n = (r, cs', b') → Q (.int r) H' := fun {r cs' b' H'} P e => by
              have e1 : (anyV cs b n).1 = r := by rw [e]
              have e2 : (anyV cs b n).2.1 = cs' := by rw [e]
              have e3 : (anyV cs b n).2.2 = b' := by rw [e]
              rw [e1, e2, e3] at q
              refine q F H' _ (.int r) ?_ ⟨?_, .cons (f := []) (.val (.int r)) (.cons (f := [a, c]) (.deal P.top P.cel) (.cons (f := []) .no .nil)), by simpa using nd, fun x m => out x (by simpa using m), P.tup⟩
              · exact ⟨Same.refl _, fun z o h m => P.keep z o h (fun e => m (by simp [e])) (fun e => m (by simp [e])), fun _ _ h => .inl h, fun x m => .inl (by simpa using m)⟩
              · intro z o h
                exact P.keep z o (t.sub z o h) (fun e => by rw [e, Fa] at h; cases h) (fun e => by rw [e, Fc] at h; cases h)
            show tAny K _ [some (.ref a), some (.int n), none] H
            -- the loop
            refine ⟨fun m σ H' => σ = [some (.ref a), some (.int n), none] ∧ ∃ cs', m = cs'.length ∧ cs'.length ≤ cs.length ∧ trim cs' = trim cs ∧ AnyP F H a c cs' b H', ⟨_, rfl, cs, rfl, Nat.le_refl _, rfl, P0⟩, ?_⟩
            rintro m σ H' ⟨rfl, cs', rfl, hle, htr, P⟩
            have hf' : Fits cs'.length := Nat.le_trans hle hfit
            -- behind the loop
            have rest : ∀ {H'' : Hp}, AnyP F H a c cs' b H'' → trim cs' = cs' → tAnyR K
                { nx := fun _ H' => Q .non H', rt := Q } [some (.ref a), some (.int n), none] H'' := fun {H''} P et => by
              refine at_ne0 P hf' rfl fun H2 P2 => ?_
              rcases List.eq_nil_or_concat cs' with e0 | ⟨cs0, l, e0⟩
              · subst e0
                refine L2.iteF (A := _) ?_
                -- the blend
                refine at_d1 P2 rfl ?_
                refine ⟨b, 40693, rfl, rfl, wide_mul (a := 31) (b := 16) (by omega) (by decide) (by decide) (by decide) (by decide), ?_⟩
                refine ⟨b * 40693, 71, rfl, rfl, ?_⟩
                refine .inl ⟨_, rfl, ?_⟩
                refine ⟨_, 2147483647, rfl, rfl, (by decide : (0 : Int) < 2147483647), ?_⟩
                refine ⟨_, rfl, a, [.ref c, .int b], 1, 1, rfl, rfl, P2.top, rfl, ?_⟩
                have P3 := P2.blend hac ((b * 40693 + 71) % 2147483647)
                refine at_d1 P3 rfl ?_
                refine ⟨_, 64, rfl, rfl, wide_div (b := 7) (by decide) (by decide) (by decide) (by decide), ?_⟩
                refine .inl ⟨_, rfl, .int n, rfl, _, n, rfl, rfl, hn, ?_⟩
                refine fin P3 ?_
                have ht : trim cs = [] := htr.symm.trans trim_nil
                unfold anyV
                rw [ht]
                rfl
              · rw [List.concat_eq_append] at e0
                subst e0
                have hne : (!decide (cs0 ++ [l] = [])) = true := by simp
                rw [hne]
                refine L2.iteT (B := _) ?_
                refine pop_at P2 hac rfl fun H3 P3 => ?_
                refine .inl ⟨l, rfl, ?_⟩
                -- the rest is put back
                show tSeq _ _ _ [some (V.ref a), some (V.int n), some (V.int l)] H3
                refine at_d0 P3 rfl ⟨.inl ⟨rfl, _, .inl (.inl P3.cel)⟩, .int l, rfl, .int n, rfl, l, n, rfl, rfl, ⟨hn, hn2⟩, c, _, .int (l / n), rfl, rfl, P3.cel, ?_, ?_⟩
                · have : cs0.length + 1 ≤ cs.length := by simpa using hle
                  have h2 : cs.length ≤ 16777216 := hfit
                  rw [List.length_map, sizeLine_eq]
                  omega
                · have P4 := P3.cells hac (cs0 ++ [l / n])
                  have e4 : (cs0 ++ [l / n]).map V.int = cs0.map V.int ++ [.int (l / n)] := by simp
                  rw [e4] at P4
                  refine ⟨_, rfl, _, rfl, l, n, rfl, rfl, hn, fin P4 ?_⟩
                  have ht : trim cs = cs0 ++ [l] := htr.symm.trans et
                  unfold anyV
                  rw [ht]
                  simp
            refine at_ne0 P hf' rfl fun H2 P2 => ?_
            rcases List.eq_nil_or_concat cs' with e0 | ⟨cs0, l, e0⟩
            · subst e0
              refine L2.iteF (A := _) ?_
              show if false = true then _ else _
              exact L2.iteF (rest P2 rfl)
            · rw [List.concat_eq_append] at e0
              subst e0
              have hne : (!decide (cs0 ++ [l] = [])) = true := by simp
              rw [hne]
              refine L2.iteT (B := _) ?_
              refine at_zero P2 rfl ?_
              by_cases hz : l = 0
              · subst hz
                rw [decide_eq_true rfl]
                refine L2.iteT (B := _) ?_
                refine ⟨fun σ' H' => σ' = [some (.ref a), some (.int n), none] ∧ AnyP F H a c cs0 b H', fun σ' H' ⟨e, P'⟩ => ⟨cs0.length, by simp, e, cs0, rfl, by simp at hle; omega, (trim_zero cs0).symm.trans htr, P'⟩, ?_⟩
                exact pop_at P2 hac rfl fun H3 P3 => ⟨rfl, P3⟩
              · rw [decide_eq_false hz]
                exact L2.iteF (rest P2 (trim_last hz))
  · cases e
theorem any_callee {P : Program} {w : World} {K : PySem.W.Frag} {mg : Str → Option Value} {base : Heap} {x : Str} {st : Stmt} {k : Nat} (c : Stands K mg x st ["deal", "bound"]) (S : FnScope ["deal", "bound", "rest"] ["deal", "bound"] (defScope st))
    (h : ∀ (f : Addr) (cdv : Value) (A : Around) (outer : List Env) (s : Shared) (H : Hp) (E : XK), Room k (A.deeper (envOfC x (defScope st) s.heap.objs.size f cdv)) → PSs (cxOf CX0 P w K mg base ["deal", "bound", "rest"] x (defScope st) f cdv A outer s H E).nox (defBody st) (tAny K)) :
    Callee P w K mg base x st (k + 1) ["deal", "bound"] anyF := by
  obtain ⟨f, fd, h1, h2, h3⟩ := c.ex
  exact ⟨f, fd, h1, h1.ok S (fun vs H Q E h => h.1) (fun cdv A outer s H vs Q E hr hs => ⟨_, h f cdv A outer s H E hr, any_imp hs⟩), h2, h3⟩
end Pf
/-! PfT: d.get(k, x). -/
namespace Pf
open L2 PyProof.Rows PySem PySem.Spec
def plainD : PyData → Bool
  | .list _ => false
  | .dict _ => false
  | _ => true
theorem RelB.plain {K : PySem.W.Frag} {F H : Hp} {v : V} {d : PyData} (h : RelB K F H v d) (p : plainD d = true) : Rel K F v d := by
  rcases h with h | ⟨a, rfl, h⟩
  · exact h
  · cases d <;> first | exact h.elim | cases p
def isDic (env : Env1) (i : Nat) : Bool := match (env[i]?).bind Slot.dat with
  | some (.dict _) => true
  | _ => false
noncomputable def gGet : List PyData → Option Slot
  | [.dict ds, k, d] => given (OneKind ds k ∧ plainD d = true) (some (.val ((dget ds k).getD d)))
  | _ => none
noncomputable def vGet (i : Nat) (rk rx : EvO) : EvV := fun env => if isDic env i then (rk env).bind fun p => (rx p.2).bind fun q => (looks q.2 [.nam i, p.1, q.1]).bind fun ds => (gGet ds).bind fun s => some (s, q.2) else none
theorem isDic_some {env : Env1} {i : Nat} (h : isDic env i = true) : ∃ s ds, env[i]? = some s ∧ s.dat = some (.dict ds) := by
  unfold isDic at h
  split at h
  · rename_i ds e
    cases e1 : env[i]? with
    | none => rw [e1] at e; cases e
    | some s => rw [e1] at e; exact ⟨s, ds, rfl, e⟩
  · cases h
section
variable {X : Cx} {o e f : Expr} {apos cpos : Pos}
theorem pv_get {i : Nat} {rk rx : EvO} (hu : X.A.units + 200 < cLine) (ho : PE X o (tVar i)) (he : PE X e (tO X.K rk)) (hf : PE X f (tO X.K rx)) (m : M2 X o "get" apos e f cpos) : PE X (.Call (.Attribute o "get" apos) [e, f] [] cpos) (tV X.K (vGet i rk rx)) := by
  refine ⟨fun pins s σ H Q I h => ?_⟩
  obtain ⟨F, env, fp, sl, env', t, e1, q⟩ := h
  unfold vGet at e1
  split at e1
  · rename_i hdic
    cases e2 : rk env with
    | none => rw [e2] at e1; cases e1
    | some p2 =>
      obtain ⟨ok, env1⟩ := p2
      cases e3 : rx env1 with
      | none => simp [e2, e3] at e1
      | some p3 =>
        obtain ⟨ox, env2⟩ := p3
        cases e4 : looks env2 [.nam i, ok, ox] with
        | none => simp [e2, e3, e4] at e1
        | some ds =>
          cases e5 : gGet ds with
          | none => simp [e2, e3, e4, e5] at e1
          | some s' =>
            simp [e2, e3, e4, e5] at e1
            obtain ⟨rfl, rfl⟩ := e1
            obtain ⟨sl0, ds0, g0, g1⟩ := isDic_some hdic
            obtain ⟨o', f', g2, g3, _⟩ := t.rel.slot g0
            have hv : ∃ v, o' = some v ∧ RelB X.K F H v (.dict ds0) := by
              cases g3 with
              | no => cases g1
              | val r => cases g1; exact ⟨_, rfl, .inl r⟩
              | own r => cases g1; exact ⟨_, rfl, .inr ⟨_, rfl, r⟩⟩
              | deal _ _ => cases g1
            obtain ⟨v0, rfl, rb0⟩ := hv
            refine wpAny_Call_method m.base m.few m.line PySem.F.plainAttrs_dict PySem.F.slot_dict_get PySem.F.type_dict_get (thn (ho.run pins s σ H (fun x H1 => x = v0 ∧ H1 = H) I ⟨v0, g2, rfl, rfl⟩) fun u s1 ⟨x, H1, I1, rx1, ex, eH⟩ => ?_)
            subst ex eH
            obtain ⟨a, rfl, hd⟩ := rb0.dict t.sub
            obtain rfl : u = Value.ref a := rx1
            have isd : IsD H1 a := by
              rcases hd with ⟨kvs, h, _⟩ | ⟨kvs, h, _⟩
              · exact .inl ⟨kvs, h⟩
              · exact .inr ⟨kvs, h⟩
            obtain ⟨t1, t2, _⟩ := isD_at I1 isd
            refine ⟨t1, t2, ?_⟩
            rw [m.trees]
            refine Calls.callWith_builtin rfl (Calls.evalArgs_plain (Calls.spliced_cons (thn (he.run pins s1 σ H1 (fun y H2 => ∃ F1 fp1, Step F H1 fp F1 H2 fp1 ∧ Stt X.K F1 H2 env1 σ fp1 ∧ OpdR X.K F1 σ ok y) I1 ⟨F, env, fp, ok, env1, t, e2, fun F1 H2 fp1 y st1 tt1 o1 => ⟨F1, fp1, st1, tt1, o1⟩⟩) fun iv s2 ⟨y, H2, I2, ry, F1, fp1, st1, tt1, o1⟩ => Calls.spliced_cons (thn (hf.run pins s2 σ H2
              (fun z H3 => ∃ F2 fp2, Step F1 H2 fp1 F2 H3 fp2 ∧ Stt X.K F2 H3 env2 σ fp2 ∧ OpdR X.K F2 σ ox z) I2 ⟨F1, env1, fp1, ox, env2, tt1, e3, fun F2 H3 fp2 z st2 tt2 o2 => ⟨F2, fp2, st2, tt2, o2⟩⟩) fun fv s3 ⟨z, H3, I3, rz, F2, fp2, st2, tt2, o2⟩ => Calls.spliced_nil ?_))))
            have rs := looks_rel tt2 (.cons (show OpdR X.K F2 σ (.nam i) (.ref a) from g2) (.cons (o1.mono st2.fz) (.cons o2 .nil))) e4
            unfold gGet at e5
            split at e5
            · rename_i kvs k d
              obtain ⟨⟨ok1, pd⟩, e5⟩ := given_some e5
              cases e5
              obtain ⟨v1, v2, v3, ev, r1, r2, r3⟩ := rs.three
              cases ev
              obtain ⟨a', H4, ov, ea, I4, dg, _, ro, back⟩ := dget_go I3 tt2.sub r1 r2 ok1.1 ok1.s1 ok1.s2
              cases ea
              refine d_get2 (by omega) I4 dg ry rz fun w' s4 I5 rw' => ?_
              have rr : Rel X.K F2 (ov.getD z) ((dget kvs k).getD d) := by
                generalize dget kvs k = od at ro
                cases ro with
                | none => exact r3.plain pd
                | some r => exact r
              exact ⟨_, H3, back s4 I5, rw', q F2 H3 fp2 _ (st1.trans st2) (tt2.pushV rr)⟩
            · cases e5
  · cases e1
end
/-! ### while -/
def whileL (c : EvB) (r : EvS) : Nat → EvS
  | 0 => fun _ => none
  | n + 1 => fun env => (c env).bind fun p => if p.1 then turnG (whileL c r n) (r p.2) else some (.nx p.2)
theorem turnG_mono {r r' : EvS} (h : ∀ e fl, r e = some fl → r' e = some fl) : ∀ {o : Option Fl} {fl : Fl}, turnG r o = some fl → turnG r' o = some fl
  | some (.nx _), _, e => h _ _ e
  | some (.ct _), _, e => h _ _ e
  | some (.bk _), _, e => e
  | some (.rt _ _), _, e => e
  | none, _, e => e
theorem whileL_succ {c : EvB} {r : EvS} : ∀ (n : Nat) (e : Env1) (fl : Fl), whileL c r n e = some fl → whileL c r (n + 1) e = some fl
  | 0, _, _, h => by cases h
  | n + 1, e, fl, h => by
    unfold whileL at h ⊢
    cases e1 : c e with
    | none => rw [e1] at h; cases h
    | some p =>
      rw [e1] at h
      simp only [Option.bind_some] at h ⊢
      split at h
      · rename_i hp
        rw [if_pos hp]
        exact turnG_mono (whileL_succ n) h
      · rename_i hp
        rw [if_neg hp]
        exact h
theorem whileL_le {c : EvB} {r : EvS} {n m : Nat} (h : n ≤ m) {e : Env1} {fl : Fl} (q : whileL c r n e = some fl) : whileL c r m e = some fl := by
  induction h with
  | refl => exact q
  | step _ ih => exact whileL_succ _ _ _ ih
open Classical in
noncomputable def sWhile (c : EvB) (r : EvS) : EvS := fun env => if h : ∃ fl n, whileL c r n env = some fl then some h.choose else none
theorem sWhile_of {c : EvB} {r : EvS} {n : Nat} {e : Env1} {fl : Fl} (h : whileL c r n e = some fl) : sWhile c r e = some fl := by
  have hx : ∃ fl n, whileL c r n e = some fl := ⟨fl, n, h⟩
  unfold sWhile
  rw [dif_pos hx]
  obtain ⟨m, hm⟩ := hx.choose_spec
  have h1 := whileL_le (Nat.le_max_left n m) h
  have h2 := whileL_le (Nat.le_max_right n m) hm
  rw [h1] at h2
  exact h2.symm
theorem sWhile_some {c : EvB} {r : EvS} {e : Env1} {fl : Fl} (h : sWhile c r e = some fl) : ∃ n, whileL c r n e = some fl := by
  unfold sWhile at h
  split at h
  · rename_i hx
    cases h
    exact hx.choose_spec
  · cases h
section
variable {X : Cx} {pn : Nat → Bool}
theorem sWhile_imp {c : EvB} {r : EvS} {D : Ends} {σ : L2.St} {H : Hp} (h : tS X.K pn (sWhile c r) D σ H) : tWhile (tB' X.K c) (tS X.K pn r) D σ H := by
  obtain ⟨F, env, fp, fl, t, e1, w⟩ := h
  obtain ⟨n, e1⟩ := sWhile_some e1
  refine ⟨fun m σ' H' => ∃ F' fp' e, Pin pn σ σ' ∧ Step F H fp F' H' fp' ∧ Stt X.K F' H' e σ' fp' ∧ whileL c r m e = some fl, ⟨n, F, fp, env, Pin.refl, Step.refl, t, e1⟩, ?_⟩
  rintro m σ' H' ⟨F', fp', e, pp, st, t', e2⟩
  cases m with
  | zero => cases e2
  | succ m =>
    unfold whileL at e2
    cases e3 : c e with
    | none => rw [e3] at e2; cases e2
    | some p =>
      obtain ⟨b, e'⟩ := p
      rw [e3] at e2
      refine ⟨F', e, fp', b, e', t', e3, fun F2 H2 fp2 s2 t2 => ?_⟩
      have e2 : (if b then turnG (whileL c r m) (r e') else some (.nx e')) = some fl := e2
      cases b with
      | false =>
        rw [if_neg Bool.false_ne_true] at e2
        cases e2
        exact L2.iteF (w σ' F2 H2 fp2 pp (st.trans s2) t2)
      | true =>
        rw [if_pos rfl] at e2
        refine L2.iteT ⟨fun σ3 H3 => ∃ F3 fp3 e3, Pin pn σ σ3 ∧ Step F H fp F3 H3 fp3 ∧ Stt X.K F3 H3 e3 σ3 fp3 ∧ whileL c r m e3 = some fl, fun σ3 H3 h3 => ⟨m, Nat.lt_succ_self _, h3⟩, ?_⟩
        have st2 := st.trans s2
        cases e5 : r e' with
        | none => rw [e5] at e2; cases e2
        | some f =>
          rw [e5] at e2
          refine ⟨F2, e', fp2, f, t2, e5, ?_⟩
          cases f with
          | nx e6 => exact fun σ4 F4 H4 fp4 p4 s4 t4 => ⟨F4, fp4, e6, pp.trans p4, st2.trans s4, t4, e2⟩
          | ct e6 => exact fun σ4 F4 H4 fp4 p4 s4 t4 => ⟨F4, fp4, e6, pp.trans p4, st2.trans s4, t4, e2⟩
          | bk e6 => cases e2; exact fun σ4 F4 H4 fp4 p4 s4 t4 => w σ4 F4 H4 fp4 (pp.trans p4) (st2.trans s4) t4
          | rt sl e6 => cases e2; exact fun σ4 F4 H4 fp4 v p4 s4 t4 => w σ4 F4 H4 fp4 v (pp.trans p4) (st2.trans s4) t4
theorem sp_while {c : Expr} {body : List Stmt} {pos : Pos} {rc : EvB} {r : EvS} (hp : PassesOwn (model X.prog X.w) X.A X.env X.xe) (hc : PT X c (tB' X.K rc)) (hb : PSs X body (tS X.K pn r)) : PS X (.While c body [] pos) (tS X.K pn (sWhile rc r)) := (ps_while hp hc hb).weak fun _ _ _ => sWhile_imp
end
theorem hu_room64 {k : Nat} {A : Around} (hr : Room k A) : A.units + 64 < cLine := by have := hr.un; omega
end Pf
/-! PfU: plain tools: comprehensions and loops of evaluators. -/
namespace Pf
open PySem PySem.Spec L2
/-- one turn of a comprehension -/
def lcT (g : EvG) (c : EvB) (r : EvO) (vs : List Nat) (d : PyData) (W : Env1) : Option (Option PyData × Env1) := (g d W).bind fun e1 => (c e1).bind fun p => if p.1 then (r p.2).bind fun q => (frzO q.2 q.1).bind fun z => some (some z.1, wipeS z.2 vs) else some (none, wipeS p.2 vs)
def lcF (t : PyData → Env1 → Option (Option PyData × Env1)) : List PyData → Env1 → Option (List PyData × Env1)
  | [], W => some ([], W)
  | d :: ds, W => (t d W).bind fun p => (lcF t ds p.2).bind fun q => some (p.1.toList ++ q.1, q.2)
theorem lcL_eq {g : EvG} {c : EvB} {r : EvO} {vs : List Nat} : ∀ (ds : List PyData) (e : Env1) (acc : List PyData), (lcL g c r vs ds e acc).map (fun p => (p.1, wipeS p.2 vs)) = (lcF (lcT g c r vs) ds (wipeS e vs)).map fun p => (acc ++ p.1, p.2)
  | [], e, acc => by simp [lcL, lcF]
  | d :: ds, e, acc => by
    have hF : lcF (lcT g c r vs) (d :: ds) (wipeS e vs) = (lcT g c r vs d (wipeS e vs)).bind fun p => (lcF (lcT g c r vs) ds p.2).bind fun q => some (p.1.toList ++ q.1, q.2) := rfl
    rw [hF]
    unfold lcL
    cases e1 : g d (wipeS e vs) with
    | none =>
      have ht : lcT g c r vs d (wipeS e vs) = none := by unfold lcT; rw [e1]; rfl
      rw [ht]
      rfl
    | some x =>
      cases e2 : c x with
      | none =>
        have ht : lcT g c r vs d (wipeS e vs) = none := by unfold lcT; simp [e1, e2]
        rw [ht]
        simp [e2]
      | some p =>
        obtain ⟨b, x2⟩ := p
        cases b with
        | false =>
          have ht : lcT g c r vs d (wipeS e vs) = some (none, wipeS x2 vs) := by unfold lcT; simp [e1, e2]
          rw [ht]
          simp only [e2, Option.bind_some, Bool.false_eq_true, if_false]
          rw [lcL_eq ds x2 acc]
          cases lcF (lcT g c r vs) ds (wipeS x2 vs) <;> simp
        | true =>
          cases e3 : r x2 with
          | none =>
            have ht : lcT g c r vs d (wipeS e vs) = none := by unfold lcT; simp [e1, e2, e3]
            rw [ht]
            simp [e2, e3]
          | some q =>
            cases e4 : frzO q.2 q.1 with
            | none =>
              have ht : lcT g c r vs d (wipeS e vs) = none := by unfold lcT; simp [e1, e2, e3, e4]
              rw [ht]
              simp [e2, e3, e4]
            | some z =>
              have ht : lcT g c r vs d (wipeS e vs) = some (some z.1, wipeS z.2 vs) := by unfold lcT; simp [e1, e2, e3, e4]
              rw [ht]
              simp only [e2, e3, e4, Option.bind_some, if_true]
              rw [lcL_eq ds z.2 (acc ++ [z.1])]
              cases lcF (lcT g c r vs) ds (wipeS z.2 vs) <;> simp
theorem vLc_eq {s : EvI} {g : EvG} {c : EvB} {r : EvO} {vs : List Nat} {env : Env1} : vLc s g c r vs env = (s env).bind fun p => (lcF (lcT g c r vs) p.1 (wipeS p.2 vs)).bind fun q => ifP (Fits q.1.length) (some (.own (.list q.1), backS p.2 q.2 vs)) := by
  unfold vLc
  cases s env with
  | none => rfl
  | some p =>
    have h := lcL_eq (g := g) (c := c) (r := r) (vs := vs) p.1 p.2 []
    simp only [Option.bind_some]
    cases e1 : lcL g c r vs p.1 p.2 [] with
    | none =>
      rw [e1] at h
      cases e2 : lcF (lcT g c r vs) p.1 (wipeS p.2 vs) with
      | none => rfl
      | some q => rw [e2] at h; cases h
    | some q1 =>
      rw [e1] at h
      cases e2 : lcF (lcT g c r vs) p.1 (wipeS p.2 vs) with
      | none => rw [e2] at h; cases h
      | some q =>
        rw [e2] at h
        simp at h
        obtain ⟨h1, h2⟩ := h
        simp [h1, h2]
theorem vLc_of {s : EvI} {g : EvG} {c : EvB} {r : EvO} {vs : List Nat} {env e1 e2 : Env1} {ds out : List PyData} (h1 : s env = some (ds, e1)) (h2 : lcF (lcT g c r vs) ds (wipeS e1 vs) = some (out, e2)) (h3 : Fits out.length) : vLc s g c r vs env = some (.own (.list out), backS e1 e2 vs) := by
  rw [vLc_eq, h1]
  simp only [Option.bind_some]
  rw [h2]
  simp only [Option.bind_some]
  exact ifP_pos h3
theorem lcF_map {t : PyData → Env1 → Option (Option PyData × Env1)} {W : Env1} {x : PyData → Option PyData} : ∀ {ds : List PyData}, (∀ d ∈ ds, t d W = some (x d, W)) → lcF t ds W = some (ds.filterMap x, W)
  | [], _ => rfl
  | d :: ds, h => by
    unfold lcF
    rw [h d List.mem_cons_self]
    simp only [Option.bind_some]
    rw [lcF_map fun d m => h d (List.mem_cons_of_mem _ m)]
    cases e : x d <;> simp [e]
theorem lcF_all {t : PyData → Env1 → Option (Option PyData × Env1)} {W : Env1} {f : PyData → PyData} {ds : List PyData} (h : ∀ d ∈ ds, t d W = some (some (f d), W)) : lcF t ds W = some (ds.map f, W) := by
  rw [lcF_map (x := fun d => some (f d)) h]
  have : ∀ ds : List PyData, ds.filterMap (fun d => some (f d)) = ds.map f := fun ds => by
    induction ds with
    | nil => rfl
    | cons d ds ih => simp [ih]
  rw [this]
/-- turns that change a state -/
theorem lcF_inv {S : Type} {t : PyData → Env1 → Option (Option PyData × Env1)} {W : S → Env1} {P : S → Prop} {R : PyData → Prop} : ∀ {ds : List PyData} {s : S}, P s → (∀ d ∈ ds, ∀ s, P s → ∃ v s', t d (W s) = some (some v, W s') ∧ P s' ∧ R v) →
    ∃ out s', lcF t ds (W s) = some (out, W s') ∧ P s' ∧ out.length = ds.length ∧ ∀ v ∈ out, R v
  | [], s, p, _ => ⟨[], s, rfl, p, rfl, by simp⟩
  | d :: ds, s, p, h => by
    obtain ⟨v, s1, h1, h2, h3⟩ := h d List.mem_cons_self s p
    obtain ⟨out, s2, g1, g2, g3, g4⟩ := lcF_inv (ds := ds) h2 fun d m => h d (List.mem_cons_of_mem _ m)
    refine ⟨v :: out, s2, ?_, g2, by simp [g3], fun u m => ?_⟩
    · unfold lcF
      rw [h1]
      simp only [Option.bind_some]
      rw [g1]
      rfl
    · rcases List.mem_cons.mp m with e | m
      · rw [e]; exact h3
      · exact g4 u m
/-- a loop: an invariant over what is left -/
theorem forL_inv {S : Type} {g : EvG} {r : EvS} {W : S → Env1} {P : List PyData → S → Prop} : ∀ {ds : List PyData} {s : S}, P ds s → (∀ d ds s, P (d :: ds) s → ∃ e1 s', g d (W s) = some e1 ∧ (r e1 = some (.nx (W s')) ∨ r e1 = some (.ct (W s'))) ∧ P ds s') →
    ∃ s', forL g r ds (W s) = some (.nx (W s')) ∧ P [] s'
  | [], s, p, _ => ⟨s, rfl, p⟩
  | d :: ds, s, p, h => by
    obtain ⟨e1, s1, h1, h2, h3⟩ := h d ds s p
    obtain ⟨s2, g1, g2⟩ := forL_inv h3 h
    refine ⟨s2, ?_, g2⟩
    unfold forL
    rw [h1]
    simp only [Option.bind_some]
    rcases h2 with h2 | h2 <;> (rw [h2]; exact g1)
theorem sSeq_nx {r r' : EvS} {env e : Env1} (h : r env = some (.nx e)) : sSeq r r' env = r' e := by unfold sSeq; rw [h]; rfl
theorem sSeq_rt {r r' : EvS} {env e : Env1} {s : Slot} (h : r env = some (.rt s e)) : sSeq r r' env = some (.rt s e) := by unfold sSeq; rw [h]; rfl
theorem sIf_t {c : EvB} {r r' : EvS} {env e : Env1} (h : c env = some (true, e)) : sIf c r r' env = r e := by unfold sIf; rw [h]; rfl
theorem sIf_f {c : EvB} {r r' : EvS} {env e : Env1} (h : c env = some (false, e)) : sIf c r r' env = r' e := by unfold sIf; rw [h]; rfl
theorem sSet_of {i : Nat} {r : EvV} {env e : Env1} {s : Slot} (h : r env = some (s, e)) (hi : i < e.length) : sSet i r env = some (.nx (e.set i s)) := by unfold sSet; rw [h]; simp [hi]
theorem sRet_of {r : EvV} {env e : Env1} {s : Slot} (h : r env = some (s, e)) : sRet r env = some (.rt s e) := by unfold sRet; rw [h]; rfl
theorem sDrop_of {r : EvV} {env e : Env1} {s : Slot} (h : r env = some (s, e)) : sDrop r env = some (.nx e) := by unfold sDrop; rw [h]; rfl
theorem sFor_of {s : EvI} {g : EvG} {r : EvS} {env e : Env1} {ds : List PyData} (h : s env = some (ds, e)) : sFor s g r env = forL g r ds e := by unfold sFor; rw [h]; rfl
theorem evP_of {g : List PyData → Option Slot} {rs : EvOs} {env e : Env1} {os : List Opd} {ds : List PyData} {s : Slot} (h1 : rs env = some (os, e)) (h2 : looks e os = some ds) (h3 : g ds = some s) : evP g rs env = some (s, e) := by
  unfold evP
  rw [h1]
  simp only [Option.bind_some]
  rw [h2]
  simp only [Option.bind_some]
  rw [h3]
  rfl
theorem asO_of {r : EvV} {env e : Env1} {s : Slot} {d : PyData} (h : r env = some (s, e)) (hd : s.dat = some d) : asO r env = some (.dat d, e) := by
  unfold asO
  rw [h]
  simp only [Option.bind_some]
  rw [hd]
  rfl
theorem consO_of {r : EvO} {rs : EvOs} {env e e2 : Env1} {o : Opd} {os : List Opd} (h1 : r env = some (o, e)) (h2 : rs e = some (os, e2)) : consO r rs env = some (o :: os, e2) := by
  unfold consO
  rw [h1]
  simp only [Option.bind_some]
  rw [h2]
  rfl
theorem callF_of {m : List Bool} {G : EvF} {rs : EvOs} {env e1 e2 e3 e4 : Env1} {os : List Opd} {z ds : List PyData} {ts out : List Slot} {s : Slot} (h1 : rs env = some (os, e1)) (h2 : frzOs e1 (selF m os) = some (z, e2)) (h3 : takeR (selT m os) e2 = some (ts, e3)) (h4 : lookVs e3 (selF m os) = some ds) (hm : m.length = os.length)
    (h5 : G (mrg m ts (ds.map .val)) = some (s, out)) (h6 : putR (selT m os) (selT m out) e3 = some e4) : callF m G rs env = some (s, e4) := by
  unfold callF
  rw [h1]
  simp only [Option.bind_some]
  rw [h2]
  simp only [Option.bind_some]
  rw [h3]
  simp only [Option.bind_some]
  rw [h4]
  simp only [Option.bind_some]
  rw [if_pos hm, h5]
  simp only [Option.bind_some]
  rw [h6]
  rfl
theorem callB_of {m : List Bool} {G : EvF} {rs : EvOs} {env e1 e3 e4 : Env1} {os : List Opd} {ds : List PyData} {ts out : List Slot} {s : Slot} (h1 : rs env = some (os, e1)) (h3 : takeR (selT m os) e1 = some (ts, e3)) (h4 : looks e3 (selF m os) = some ds) (hm : m.length = os.length)
    (h5 : G (mrg m ts (ds.map .val)) = some (s, out)) (hs : (safe s && (selT m out).all safe) = true) (h6 : putR (selT m os) (selT m out) e3 = some e4) : callB m G rs env = some (s, e4) := by
  unfold callB
  rw [h1]
  simp only [Option.bind_some]
  rw [h3]
  simp only [Option.bind_some]
  rw [h4]
  simp only [Option.bind_some]
  rw [if_pos hm, h5]
  simp only [Option.bind_some]
  rw [if_pos hs, h6]
  rfl
theorem vO_of {r : EvO} {env e e2 : Env1} {o : Opd} {d : PyData} (h : r env = some (o, e)) (h2 : frzO e o = some (d, e2)) : vO r env = some (.val d, e2) := by
  unfold vO
  rw [h]
  simp only [Option.bind_some]
  rw [h2]
  rfl
theorem bV_of {r : EvV} {env e : Env1} {b : Bool} (h : r env = some (.val (.bool b), e)) : bV r env = some (b, e) := by
  unfold bV
  rw [h]
  rfl
theorem bNot_of {r : EvB} {env e : Env1} {b : Bool} (h : r env = some (b, e)) : bNot r env = some (!b, e) := by unfold bNot; rw [h]; rfl
theorem bAnd_t {r r' : EvB} {env e : Env1} (h : r env = some (true, e)) : bAnd r r' env = r' e := by unfold bAnd; rw [h]; rfl
theorem bAnd_f {r r' : EvB} {env e : Env1} (h : r env = some (false, e)) : bAnd r r' env = some (false, e) := by unfold bAnd; rw [h]; rfl
theorem bOr_t {r r' : EvB} {env e : Env1} (h : r env = some (true, e)) : bOr r r' env = some (true, e) := by unfold bOr; rw [h]; rfl
theorem bOr_f {r r' : EvB} {env e : Env1} (h : r env = some (false, e)) : bOr r r' env = r' e := by unfold bOr; rw [h]; rfl
theorem vB_of {r : EvB} {env e : Env1} {b : Bool} (h : r env = some (b, e)) : vB r env = some (.val (.bool b), e) := by unfold vB; rw [h]; rfl
theorem vIte_t {c : EvB} {r r' : EvV} {env e : Env1} (h : c env = some (true, e)) : vIte c r r' env = r e := by unfold vIte; rw [h]; rfl
theorem vIte_f {c : EvB} {r r' : EvV} {env e : Env1} (h : c env = some (false, e)) : vIte c r r' env = r' e := by unfold vIte; rw [h]; rfl
theorem vTup_of {rs : EvOs} {env e e2 : Env1} {os : List Opd} {ds : List PyData} (h1 : rs env = some (os, e)) (h2 : frzOs e os = some (ds, e2)) (h3 : Fits ds.length) : vTup rs env = some (.val (.tuple ds), e2) := by
  unfold vTup
  rw [h1]
  simp only [Option.bind_some]
  rw [h2]
  simp only [Option.bind_some]
  rw [given_pos h3]
  rfl
theorem vLst_of {rs : EvOs} {env e e2 : Env1} {os : List Opd} {ds : List PyData} (h1 : rs env = some (os, e)) (h2 : frzOs e os = some (ds, e2)) (h3 : Fits ds.length) : vLst rs env = some (.own (.list ds), e2) := by
  unfold vLst
  rw [h1]
  simp only [Option.bind_some]
  rw [h2]
  simp only [Option.bind_some]
  rw [given_pos h3]
  rfl
theorem defE_rt {n : Nat} {m : List Bool} {body : EvS} {args outs : List Slot} {s : Slot} (env : Env1) {e : Env1} (he : args ++ List.replicate (n - args.length) .no = env) (h : body env = some (.rt s e)) (ho : selS m e = outs) : defE n m body args = some (s, outs) := by unfold defE; rw [he, h, ← ho]; rfl
theorem lcT_of {g : EvG} {c : EvB} {r : EvO} {vs : List Nat} {d v : PyData} {W W' e1 e2 e3 e4 : Env1} {o : Opd} (h1 : g d W = some e1) (h2 : c e1 = some (true, e2)) (h3 : r e2 = some (o, e3)) (h4 : frzO e3 o = some (v, e4)) (h5 : wipeS e4 vs = W') : lcT g c r vs d W = some (some v, W') := by
  unfold lcT
  rw [h1]
  simp only [Option.bind_some]
  rw [h2]
  simp only [Option.bind_some, if_true]
  rw [h3]
  simp only [Option.bind_some]
  rw [h4, ← h5]
  rfl
theorem lcT_no {g : EvG} {c : EvB} {r : EvO} {vs : List Nat} {d : PyData} {W W' e1 e2 : Env1} (h1 : g d W = some e1) (h2 : c e1 = some (false, e2)) (h5 : wipeS e2 vs = W') : lcT g c r vs d W = some (none, W') := by
  unfold lcT
  rw [h1]
  simp only [Option.bind_some]
  rw [h2, ← h5]
  rfl
theorem gLt_of {d e : PyData} (h : Cmp2 d e) : gLt [d, e] = some (.val (.bool (PySem.W.dataLt d e))) := given_pos h
theorem gGt_of {d e : PyData} (h : Cmp2 d e) : gGt [d, e] = some (.val (.bool (PySem.W.dataLt e d))) := given_pos h
theorem gLe_of {d e : PyData} (h : Cmp2 d e) : gLe [d, e] = some (.val (.bool (!PySem.W.dataLt e d))) := given_pos h
theorem gGe_of {d e : PyData} (h : Cmp2 d e) : gGe [d, e] = some (.val (.bool (!PySem.W.dataLt d e))) := given_pos h
theorem gEq_of {d e : PyData} (h : Sh d) (h' : Sh e) : gEq [d, e] = some (.val (.bool (PyData.eqv d e))) := given_pos ⟨h, h'⟩
theorem gNe_of {d e : PyData} (h : Sh d) (h' : Sh e) : gNe [d, e] = some (.val (.bool (!PyData.eqv d e))) := given_pos ⟨h, h'⟩
theorem sh_int (i : Int) : Sh (.int i) := ⟨by simp [noDict], by simp [SeqAt.shaped, PyData.canLay0, PyData.depth]⟩
theorem cmp_int (a b : Int) : Cmp2 (.int a) (.int b) := ⟨sh_int a, sh_int b, by simp [PySem.W.alike], by simp⟩
theorem dataLt_int (a b : Int) : PySem.W.dataLt (.int a) (.int b) = decide (a < b) := by
  unfold PySem.W.dataLt
  simp only [PySem.W.keyToks, PyProof.Rows.lexLt]
  show (decide (a < b) || (!decide (b < a) && false)) = decide (a < b)
  simp
theorem eqv_int (a b : Int) : PyData.eqv (.int a) (.int b) = decide (a = b) := by
  simp only [PyData.eqv]
  by_cases h : a = b <;> simp [h]
theorem gLt_int {a b : Int} : gLt [.int a, .int b] = some (.val (.bool (decide (a < b)))) := by rw [gLt_of (cmp_int a b), dataLt_int]
theorem gGe_int {a b : Int} : gGe [.int a, .int b] = some (.val (.bool (!decide (a < b)))) := by rw [gGe_of (cmp_int a b), dataLt_int]
theorem gEq_int {a b : Int} : gEq [.int a, .int b] = some (.val (.bool (decide (a = b)))) := by rw [gEq_of (sh_int a) (sh_int b), eqv_int]
theorem gNe_int {a b : Int} : gNe [.int a, .int b] = some (.val (.bool (!decide (a = b)))) := by rw [gNe_of (sh_int a) (sh_int b), eqv_int]
theorem lRg_of {own : Bool} {r : EvO} {env e : Env1} {o : Opd} {n : Int} (h1 : r env = some (o, e)) (h2 : look e o = some (.int n)) (h3 : RgOk 0 n) : vLRg own r env = some (if own then .own (.list (rngD 0 n.toNat)) else .val (.tuple (rngD 0 n.toNat)), e) := by
  unfold vLRg
  rw [h1]
  simp only [Option.bind_some]
  rw [h2]
  exact ifP_pos h3
theorem iRng1_of {r : EvO} {env e : Env1} {o : Opd} {n : Int} (h1 : r env = some (o, e)) (h2 : look e o = some (.int n)) (h3 : Small n) : Pf.iRng1 r env = some (rngD 0 n.toNat, e) := by
  unfold Pf.iRng1
  rw [h1]
  simp only [Option.bind_some]
  rw [h2]
  exact ifP_pos h3
theorem iSeq_of {r : EvO} {env e e2 : Env1} {o : Opd} {d : PyData} {ds : List PyData} (h : r env = some (o, e)) (h2 : frzO e o = some (d, e2)) (h3 : seqOf d = some ds) : iSeq r env = some (ds, e2) := by
  unfold iSeq
  rw [h]
  simp only [Option.bind_some]
  rw [h2]
  simp only [Option.bind_some]
  rw [h3]
  rfl
theorem lcF_allm {α : Type} {t : PyData → Env1 → Option (Option PyData × Env1)} {W : Env1} {u f : α → PyData} {l : List α} (h : ∀ a ∈ l, t (u a) W = some (some (f a), W)) : lcF t (l.map u) W = some (l.map f, W) := by
  induction l with
  | nil => rfl
  | cons a l ih =>
    have h1 := h a List.mem_cons_self
    have h2 := ih fun a m => h a (List.mem_cons_of_mem _ m)
    show ((t (u a) W).bind fun p => (lcF t (l.map u) p.2).bind fun q => some (p.1.toList ++ q.1, q.2)) = _
    rw [h1]
    simp only [Option.bind_some]
    rw [h2]
    rfl
theorem lcF_mapm {α : Type} {t : PyData → Env1 → Option (Option PyData × Env1)} {W : Env1} {u : α → PyData} {f : α → Option PyData} {l : List α} (h : ∀ a ∈ l, t (u a) W = some (f a, W)) : lcF t (l.map u) W = some (l.filterMap f, W) := by
  induction l with
  | nil => rfl
  | cons a l ih =>
    have h1 := h a List.mem_cons_self
    have h2 := ih fun a m => h a (List.mem_cons_of_mem _ m)
    show ((t (u a) W).bind fun p => (lcF t (l.map u) p.2).bind fun q => some (p.1.toList ++ q.1, q.2)) = _
    rw [h1]
    simp only [Option.bind_some]
    rw [h2]
    cases e : f a <;> simp [e]
theorem gSorted_of {ds : List PyData} (h : SortOk ds) : gSorted [.list ds] = some (.own (.list (sortD ds))) := given_pos h
/-- a loop as a fold; J: what else changes -/
theorem forL_fold {α S J : Type} {g : EvG} {r : EvS} {u : α → PyData} {W : S → J → Env1} {step : S → α → S} {P : List α → S → Prop} : ∀ {l : List α} {s : S} {j : J}, P l s →
    (∀ a rest s j, a ∈ l → P (a :: rest) s → ∃ e1 j', g (u a) (W s j) = some e1 ∧ r e1 = some (.nx (W (step s a) j')) ∧ P rest (step s a)) → ∃ j', forL g r (l.map u) (W s j) = some (.nx (W (l.foldl step s) j')) ∧ P [] (l.foldl step s)
  | [], s, j, p, _ => ⟨j, rfl, p⟩
  | a :: l, s, j, p, h => by
    obtain ⟨e1, j1, h1, h2, h3⟩ := h a l s j List.mem_cons_self p
    obtain ⟨j2, g1, g2⟩ := forL_fold (l := l) (s := step s a) (j := j1) h3 fun b rest s j m => h b rest s j (List.mem_cons_of_mem _ m)
    refine ⟨j2, ?_, g2⟩
    show ((g (u a) (W s j)).bind fun e => turnG (forL g r (l.map u)) (r e)) = _
    rw [h1]
    simp only [Option.bind_some]
    rw [h2]
    exact g1
theorem vGet_of {i : Nat} {rk rx : EvO} {env e1 e2 : Env1} {o1 o2 : Opd} {ds : List PyData} {s : Slot} (h0 : isDic env i = true) (h1 : rk env = some (o1, e1)) (h2 : rx e1 = some (o2, e2)) (h3 : looks e2 [.nam i, o1, o2] = some ds) (h4 : gGet ds = some s) : vGet i rk rx env = some (s, e2) := by
  unfold vGet
  rw [if_pos h0, h1]
  simp only [Option.bind_some]
  rw [h2]
  simp only [Option.bind_some]
  rw [h3]
  simp only [Option.bind_some]
  rw [h4]
  rfl
theorem sPut_of {i : Nat} {rk rv : EvO} {env e1 e2 e3 : Env1} {ov ok : Opd} {v k d d' : PyData} (h1 : rv env = some (ov, e1)) (h2 : rk e1 = some (ok, e2)) (h3 : frzO e2 ov = some (v, e3)) (h4 : look e3 ok = some k) (h5 : ownD e3 i = some d) (h6 : putD d k v = some d') (h7 : (ownD env i).isSome = true) : sPut i rk rv env = some (.nx (e3.set i (.own d'))) := by
  unfold sPut
  rw [h1]
  simp only [Option.bind_some]
  rw [h2]
  simp only [Option.bind_some]
  rw [h3]
  simp only [Option.bind_some]
  rw [h4]
  simp only [Option.bind_some]
  rw [h5]
  simp only [Option.bind_some]
  rw [h6]
  simp only [Option.bind_some]
  rw [if_pos h7]
theorem gGet_of {kvs : List (PyData × PyData)} {k d : PyData} (h : OneKind kvs k) (hp : plainD d = true) : gGet [.dict kvs, k, d] = some (.val ((dget kvs k).getD d)) := given_pos ⟨h, hp⟩
theorem gSub1_dict {kvs : List (PyData × PyData)} {k v : PyData} (h : OneKind kvs k) (hv : dget kvs k = some v) : gSub1 [.dict kvs, k] = some (.val v) := (given_pos h).trans (by rw [hv]; rfl)
theorem putD_dict {kvs : List (PyData × PyData)} {k d : PyData} (h : OneKind kvs k) (hf : Fits (kvs.length + 1)) : putD (.dict kvs) k d = some (.dict (dput kvs k d)) := by
  have e : putD (.dict kvs) k d = ifP (OneKind kvs k ∧ Fits (kvs.length + 1)) (some (.dict (dput kvs k d))) := by cases k <;> rfl
  rw [e]
  exact ifP_pos ⟨h, hf⟩
theorem gMul_of {a b : Int} (h : L2.CMulW a b) : gMul [.int a, .int b] = some (.val (.int (a * b))) := given_pos h
theorem gMod_of {a b : Int} (h : 0 < b) : gMod [.int a, .int b] = some (.val (.int (a % b))) := given_pos h
theorem gSortedD_of {kvs : List (PyData × PyData)} (h : SortOk (kvs.map (·.1))) : gSorted [.dict kvs] = some (.own (.list (sortD (kvs.map (·.1))))) := given_pos h
/-- a comprehension whose turns leave all as it was -/
theorem vLc_same {s : EvI} {g : EvG} {c : EvB} {r : EvO} {vs : List Nat} {env e3 : Env1} (e1 : Env1) {ds out : List PyData} (h1 : s env = some (ds, e1)) (h2 : lcF (lcT g c r vs) ds (wipeS e1 vs) = some (out, wipeS e1 vs)) (h3 : Fits out.length) (hb : backS e1 (wipeS e1 vs) vs = e3) : vLc s g c r vs env = some (.own (.list out), e3) := by
  rw [vLc_of h1 h2 h3, hb]
theorem forL_nx {g : EvG} {r : EvS} {d : PyData} {ds : List PyData} {env e1 e2 : Env1} (h1 : g d env = some e1) (h2 : r e1 = some (.nx e2)) : forL g r (d :: ds) env = forL g r ds e2 := by
  show ((g d env).bind fun e => turnG (forL g r ds) (r e)) = _
  rw [h1]
  simp only [Option.bind_some]
  rw [h2]
  rfl
theorem forL_rt {g : EvG} {r : EvS} {d : PyData} {ds : List PyData} {env e1 e2 : Env1} {s : Slot} (h1 : g d env = some e1) (h2 : r e1 = some (.rt s e2)) : forL g r (d :: ds) env = some (.rt s e2) := by
  show ((g d env).bind fun e => turnG (forL g r ds) (r e)) = _
  rw [h1]
  simp only [Option.bind_some]
  rw [h2]
  rfl
theorem vApp_of {i : Nat} {r : EvO} {env e1 e2 : Env1} {o : Opd} {d : PyData} {ds ds0 : List PyData} (h0 : ownL env i = some ds0) (h1 : r env = some (o, e1)) (h2 : frzO e1 o = some (d, e2)) (h3 : ownL e2 i = some ds) (h4 : Fits (ds.length + 1)) : vApp i r env = some (.val .none, e2.set i (.own (.list (ds ++ [d])))) := by
  unfold vApp
  rw [h0]
  simp only [Option.bind_some]
  rw [h1]
  simp only [Option.bind_some]
  rw [h2]
  simp only [Option.bind_some]
  rw [h3]
  exact ifP_pos h4
theorem vPopAt_of {i : Nat} {r : EvO} {env e1 : Env1} {o : Opd} {k : Int} {j : Nat} {d : PyData} {ds ds0 : List PyData} (h0 : ownL env i = some ds0) (h1 : r env = some (o, e1)) (h2 : look e1 o = some (.int k)) (h3 : ownL e1 i = some ds) (h4 : L2.ixN ds.length k = some j) (h5 : ds[j]? = some d) (h6 : Fits ds.length) : vPopAt i r env = some (.val d, e1.set i (.own (.list (ds.eraseIdx j)))) := by
  unfold vPopAt
  rw [h0]
  simp only [Option.bind_some]
  rw [h1]
  simp only [Option.bind_some]
  rw [h2]
  simp only [Option.bind_some, intOf]
  rw [h3]
  simp only [Option.bind_some]
  rw [h4]
  simp only [Option.bind_some]
  rw [h5]
  exact ifP_pos h6
theorem sPar_of {i j : Nat} {r r' : EvV} {env e1 e2 : Env1} {s s' : Slot} (h1 : r env = some (s, e1)) (h2 : r' e1 = some (s', e2)) (hi : i < e2.length ∧ j < e2.length) : sPar i j r r' env = some (.nx ((e2.set i s).set j s')) := by
  unfold sPar
  rw [h1]
  simp only [Option.bind_some]
  rw [h2]
  simp only [Option.bind_some]
  rw [if_pos hi]
theorem whileL_t {c : EvB} {r : EvS} {n : Nat} {env e1 e2 : Env1} (h1 : c env = some (true, e1)) (h2 : r e1 = some (.nx e2)) : whileL c r (n + 1) env = whileL c r n e2 := by
  show ((c env).bind fun p => if p.1 then turnG (whileL c r n) (r p.2) else some (.nx p.2)) = _
  rw [h1]
  simp only [Option.bind_some, if_true]
  rw [h2]
  rfl
theorem whileL_f {c : EvB} {r : EvS} {n : Nat} {env e1 : Env1} (h1 : c env = some (false, e1)) : whileL c r (n + 1) env = some (.nx e1) := by
  show ((c env).bind fun p => if p.1 then turnG (whileL c r n) (r p.2) else some (.nx p.2)) = _
  rw [h1]
  rfl
theorem ixN_nat {n i : Nat} (h : i < n) : L2.ixN n (i : Int) = some i := by
  unfold L2.ixN
  rw [if_pos (by omega), if_pos (by omega)]
  simp
end Pf
namespace Pf
open L2 PyProof.Rows PySem PySem.Spec
noncomputable def bd_is_integer : EvS := sRet (vB (bAnd (bV (eIsi [.int] (oN 0))) (bV (vB (bNot (bV (eIsi [.bool] (oN 0))))))))
noncomputable def ev_is_integer : EvF := defE 1 [false] bd_is_integer
noncomputable def bd_is_number : EvS := sRet (vB (bAnd (bV (callF [false] ev_is_integer (consO (oN 0) (nilO)))) (bV (ev2 gGe (oN 0) (oC (.int 0))))))
noncomputable def ev_is_number : EvF := defE 1 [false] bd_is_number
noncomputable def bd_is_index : EvS := sRet (vB (bAnd (bV (callF [false] ev_is_number (consO (oN 0) (nilO)))) (bV (ev2 gLt (oN 0) (oN 1)))))
noncomputable def ev_is_index : EvF := defE 2 [false, false] bd_is_index
noncomputable def bd_is_order : EvS := sSeq (sIf (bOr (bNot (bV (eIsi [.tuple] (oN 1)))) (bOr (bV (ev2 gNe (asO (evP gLen (consO (oN 1) (nilO)))) (oN 0))) (bNot (bV (evP gAll (consO (asO (vLc (iSeq (oN 1)) (gN 2) (bTrue) (asO (callF [false, false] ev_is_index (consO (oN 2) (consO (oN 0) (nilO))))) [2])) (nilO))))))) (sRet (vO (oC (.bool false)))) (sNext)) (sRet (ev2 gEq (asO (evP gSorted (consO (oN 1) (nilO)))) (asO (vLRg true (oN 0)))))
noncomputable def ev_is_order : EvF := defE 3 [false, false] bd_is_order
noncomputable def bd_rank : EvS := sRet (evP gTuple (consO (asO (vLc (iSeq (asO (vRev (oN 0)))) (gN 2) (bTrue) (asO (ev2 gSub1 (oN 1) (oN 2))) [2])) (nilO)))
noncomputable def ev_rank : EvF := defE 3 [false, false] bd_rank
noncomputable def bd_is_ahead : EvS := sRet (ev2 gLt (asO (callF [false, false] ev_rank (consO (oN 0) (consO (oN 1) (nilO))))) (asO (callF [false, false] ev_rank (consO (oN 0) (consO (oN 2) (nilO))))))
noncomputable def ev_is_ahead : EvF := defE 3 [false, false, false] bd_is_ahead
noncomputable def bd_along : EvS := sRet (evP gTuple (consO (asO (vLc (iSeq (asO (evP gSorted (consO (asO (vLc (iSeq (oN 1)) (gN 4) (bTrue) (asO (vTup (consO (asO (callF [false, false] ev_rank (consO (oN 0) (consO (oN 4) (nilO))))) (consO (oN 4) (nilO))))) [4])) (nilO))))) (gT 2 (gConss (gN 2) (gConss (gN 3) (gNils)))) (bTrue) (oN 3) [2, 3])) (nilO)))
noncomputable def ev_along : EvF := defE 5 [false, false] bd_along
noncomputable def bd_head : EvS := sSeq (sIf (bV (ev2 gEq (oN 0) (asO (vTup (nilO))))) (sRet (vO (oC .none))) (sNext)) (sRet (ev2 gSub1 (asO (callF [false, false] ev_along (consO (oN 1) (consO (asO (vLc (iSeq (oN 0)) (gT 2 (gConss (gN 2) (gConss (gN 3) (gNils)))) (bTrue) (oN 2) [2, 3])) (nilO))))) (asO (ev1 gNeg (oC (.int 1))))))
noncomputable def ev_head : EvF := defE 4 [false, false] bd_head
noncomputable def bd_element : EvS := sRet (vIte (bV (ev2 gEq (oN 0) (oC (.int 0)))) (vO (oN 1)) (ev2 gMod (asO (evP gInt (consO (oN 1) (nilO)))) (oN 0)))
noncomputable def ev_element : EvF := defE 2 [false, false] bd_element
noncomputable def bd_gathered : EvS := sSeq (sSet 2 (vLc (iSeq (asO (evP gSorted (consO (oN 1) (nilO))))) (gN 3) (bTrue) (asO (vTup (consO (oN 3) (consO (asO (callF [false, false] ev_element (consO (oN 0) (consO (asO (ev2 gSub1 (oN 1) (oN 3))) (nilO))))) (nilO))))) [3])) (sRet (evP gTuple (consO (asO (vLc (iSeq (oN 2)) (gN 4) (bV (ev2 gNe (asO (ev2 gSub1 (oN 4) (oC (.int 1)))) (oC (.int 0)))) (oN 4) [4])) (nilO))))
noncomputable def ev_gathered : EvF := defE 5 [false, false] bd_gathered
noncomputable def bd_factor_of : EvS := sSeq (sFor (iSeq (oN 0)) (gT 2 (gConss (gN 2) (gConss (gN 3) (gNils)))) (sIf (bV (ev2 gEq (oN 2) (oN 1))) (sRet (vMv 3)) (sNext))) (sRet (vO (oC (.int 0))))
noncomputable def ev_factor_of : EvF := defE 4 [false, false] bd_factor_of
noncomputable def bd_times : EvS := sSeq (sSet 3 (vDic)) (sSeq (sFor (iSeq (oN 1)) (gT 2 (gConss (gN 4) (gConss (gN 5) (gNils)))) (sFor (iSeq (oN 2)) (gT 2 (gConss (gN 6) (gConss (gN 7) (gNils)))) (sSeq (sSet 8 (evP gTuple (consO (asO (vLc (iZip2 (oN 4) (oN 6)) (gT 2 (gConss (gN 9) (gConss (gN 10) (gNils)))) (bTrue) (asO (ev2 gAdd (oN 9) (oN 10))) [9, 10])) (nilO)))) (sPut 3 (oN 8) (asO (ev2 gAdd (asO (vGet 3 (oN 8) (oC (.int 0)))) (asO (ev2 gMul (oN 5) (oN 7))))))))) (sRet (callF [false, false] ev_gathered (consO (oN 0) (consO (oN 3) (nilO))))))
noncomputable def ev_times : EvF := defE 11 [false, false, false] bd_times
noncomputable def bd_law_draw : EvS := sSeq (sSet 2 (vLc (iSeq (asO (vCut (oN 0) none (some (oC (.int 48)))))) (gN 4) (bTrue) (asO (evP gAbs (consO (asO (evP gInt (consO (oN 4) (nilO)))) (nilO)))) [4])) (sSeq (sSet 3 (ev2 gAdd (oC (.int 7919)) (asO (ev2 gMul (oC (.int 104729)) (oN 1))))) (sSeq (sFor (iSeq (oN 2)) (gN 4) (sSet 3 (ev2 gMod (asO (evP gInt (consO (asO (ev2 gAdd (asO (ev2 gAdd (asO (ev2 gMul (oN 3) (oC (.int 48271)))) (asO (ev2 gMod (oN 4) (oC (.int 2147483549)))))) (oC (.int 11)))) (nilO)))) (oC (.int 2147483647))))) (sRet (vDeal (vRev (asO (vLc (iSeq (oN 2)) (gN 4) (bV (ev2 gGe (oN 4) (asO (ev2 gPow (oC (.int 10)) (oC (.int 18)))))) (oN 4) [4]))) (oN 3)))))
noncomputable def ev_law_draw : EvF := defE 5 [false, false] bd_law_draw
noncomputable def bd_law_of : EvS := sRet (ev2 gSub1 (oN 1) (asO (callF [true, false] anyF (consO (oN 0) (consO (asO (evP gLen (consO (oN 1) (nilO)))) (nilO))))))
noncomputable def ev_law_of : EvF := defE 2 [true, false] bd_law_of
noncomputable def bd_law_mixed : EvS := sSeq (sPar 2 3 (evP gList (consO (oN 1) (nilO))) (vLst (nilO))) (sSeq (sWhile (bV (ev2 gNe (oN 2) (asO (vLst (nilO))))) (sDrop (vApp 3 (asO (vPopAt 2 (asO (callF [true, false] anyF (consO (oN 0) (consO (asO (evP gLen (consO (oN 2) (nilO)))) (nilO)))))))))) (sRet (vMv 3)))
noncomputable def ev_law_mixed : EvF := defE 4 [true, false] bd_law_mixed
noncomputable def bd_law_same (self_law_same : EvF) : EvS := sSeq (sIf (bOr (bV (eIsi [.bool] (oN 1))) (bV (eIsi [.bool] (oN 0)))) (sRet (vB (bAnd (bV (eIsi [.bool] (oN 1))) (bV (vB (bAnd (bV (eIsi [.bool] (oN 0))) (bV (ev2 gEq (oN 0) (oN 1))))))))) (sNext)) (sSeq (sIf (bV (eIsi [.int] (oN 1))) (sRet (vB (bAnd (bV (eIsi [.int] (oN 0))) (bV (ev2 gEq (oN 0) (oN 1)))))) (sNext)) (sSeq (sIf (bV (eIsi [.str] (oN 1))) (sRet (vB (bAnd (bV (eIsi [.str] (oN 0))) (bV (ev2 gEq (oN 0) (oN 1)))))) (sNext)) (sSeq (sIf (bV (eIsi [.tuple] (oN 1))) (sSeq (sIf (bOr (bNot (bV (eIsi [.tuple] (oN 0)))) (bV (ev2 gNe (asO (evP gLen (consO (oN 0) (nilO)))) (asO (evP gLen (consO (oN 1) (nilO))))))) (sRet (vO (oC (.bool false)))) (sNext)) (sRet (evP gAll (consO (asO (vLc (Pf.iRng1 (asO (evP gLen (consO (oN 1) (nilO))))) (gN 2) (bTrue) (asO (callF [false, false] self_law_same (consO (asO (ev2 gSub1 (oN 0) (oN 2))) (consO (asO (ev2 gSub1 (oN 1) (oN 2))) (nilO))))) [2])) (nilO))))) (sNext)) (sRet (vB (bAnd (bV (ev2 gIs (oN 0) (oC .none))) (bV (ev2 gIs (oN 1) (oC .none)))))))))
noncomputable def ev_law_same : Nat → EvF
  | 0 => fun _ => none
  | k + 1 => defE 3 [false, false] (bd_law_same (ev_law_same k))
noncomputable def bd_law_element : EvS := sRet (vIte (bV (ev2 gEq (oN 0) (oC (.int 0)))) (vO (oN 1)) (ev2 gMod (asO (evP gInt (consO (oN 1) (nilO)))) (oN 0)))
noncomputable def ev_law_element : EvF := defE 2 [false, false] bd_law_element
noncomputable def bd_law_tidy : EvS := sRet (evP gTuple (consO (asO (vLc (iSeq (asO (evP gSorted (consO (oN 1) (nilO))))) (gN 2) (bV (ev2 gNe (asO (callF [false, false] ev_law_element (consO (oN 0) (consO (asO (ev2 gSub1 (oN 1) (oN 2))) (nilO))))) (oC (.int 0)))) (asO (vTup (consO (oN 2) (consO (asO (callF [false, false] ev_law_element (consO (oN 0) (consO (asO (ev2 gSub1 (oN 1) (oN 2))) (nilO))))) (nilO))))) [2])) (nilO)))
noncomputable def ev_law_tidy : EvF := defE 3 [false, false] bd_law_tidy
noncomputable def bd_law_order : EvS := sRet (evP gTuple (consO (asO (callF [true, false] ev_law_mixed (consO (oN 0) (consO (asO (vLRg true (oN 1))) (nilO))))) (nilO)))
noncomputable def ev_law_order : EvF := defE 2 [true, false] bd_law_order
noncomputable def bd_law_plus_powers : EvS := sRet (evP gTuple (consO (asO (vLc (Pf.iRng1 (asO (evP gLen (consO (oN 0) (nilO))))) (gN 2) (bTrue) (asO (ev2 gAdd (asO (ev2 gSub1 (oN 0) (oN 2))) (asO (ev2 gSub1 (oN 1) (oN 2))))) [2])) (nilO)))
noncomputable def ev_law_plus_powers : EvF := defE 3 [false, false] bd_law_plus_powers
noncomputable def bd_law_is_ahead : EvS := sSeq (sFor (iSeq (asO (vRev (oN 0)))) (gN 3) (sIf (bV (ev2 gNe (asO (ev2 gSub1 (oN 1) (oN 3))) (asO (ev2 gSub1 (oN 2) (oN 3))))) (sRet (ev2 gLt (asO (ev2 gSub1 (oN 1) (oN 3))) (asO (ev2 gSub1 (oN 2) (oN 3))))) (sNext))) (sRet (vO (oC (.bool false))))
noncomputable def ev_law_is_ahead : EvF := defE 4 [false, false, false] bd_law_is_ahead
noncomputable def bd_law_some : EvS := sSeq (sSet 4 (vLst (consO (asO (evP gTuple (consO (asO (vLc (Pf.iRng1 (oN 1)) (gN 8) (bTrue) (asO (callF [true, false] anyF (consO (oN 0) (consO (oN 3) (nilO))))) [8])) (nilO)))) (nilO)))) (sSeq (sFor (Pf.iRng1 (oN 2)) (gN 5) (sSeq (sSet 6 (evP gList (consO (asO (callB [true, false] ev_law_of (consO (oN 0) (consO (oN 4) (nilO))))) (nilO)))) (sSeq (sFor (Pf.iRng1 (asO (callB [true, false] ev_law_of (consO (oN 0) (consO (asO (vLst (consO (oC (.int 1)) (consO (oC (.int 1)) (consO (oC (.int 2)) (consO (oN 1) (nilO))))))) (nilO)))))) (gN 7) (sPut 6 (asO (callF [true, false] anyF (consO (oN 0) (consO (oN 1) (nilO))))) (asO (callF [true, false] anyF (consO (oN 0) (consO (oN 3) (nilO))))))) (sIf (bV (ev2 gNotIn (asO (evP gTuple (consO (oN 6) (nilO)))) (oN 4))) (sDrop (vApp 4 (asO (evP gTuple (consO (oN 6) (nilO)))))) (sNext))))) (sRet (vMv 4)))
noncomputable def ev_law_some : EvF := defE 9 [true, false, false, false] bd_law_some
noncomputable def bd_law_polynomial : EvS := sSeq (sSet 5 (vDic)) (sSeq (sFor (iSeq (asO (callF [true, false, false, false] ev_law_some (consO (oN 0) (consO (oN 2) (consO (oN 3) (consO (oN 4) (nilO)))))))) (gN 6) (sPut 5 (oN 6) (asO (vIte (bV (ev2 gEq (oN 1) (oC (.int 0)))) (ev2 Pf.gSub (asO (callF [true, false] anyF (consO (oN 0) (consO (oC (.int 19)) (nilO))))) (oC (.int 9))) (callF [true, false] anyF (consO (oN 0) (consO (oN 1) (nilO)))))))) (sRet (callF [false, false] ev_law_tidy (consO (oN 1) (consO (oN 5) (nilO))))))
noncomputable def ev_law_polynomial : EvF := defE 7 [true, false, false, false, false] bd_law_polynomial
noncomputable def bd_law_due_head : EvS := sSeq (sSet 2 (vO (oC .none))) (sSeq (sFor (iSeq (oN 0)) (gT 2 (gConss (gN 3) (gConss (gN 4) (gNils)))) (sIf (bOr (bV (ev2 gIs (oN 2) (oC .none))) (bV (callF [false, false, false] ev_law_is_ahead (consO (oN 1) (consO (oN 2) (consO (oN 3) (nilO))))))) (sSet 2 (vO (oN 3))) (sNext))) (sRet (vMv 2)))
noncomputable def ev_law_due_head : EvF := defE 5 [false, false] bd_law_due_head
noncomputable def bd_law_near_orders : EvS := sSeq (sPar 3 4 (callF [true, false] anyF (consO (oN 0) (consO (oN 1) (nilO)))) (callF [true, false] anyF (consO (oN 0) (consO (oN 1) (nilO))))) (sSeq (sSet 5 (vLst (consO (asO (vTup (consO (oN 2) (consO (oC (.bool true)) (nilO))))) (consO (asO (vTup (consO (asO (evP gList (consO (oN 2) (nilO)))) (consO (oC (.bool false)) (nilO))))) (consO (asO (vTup (consO (asO (ev2 gAdd (oN 2) (asO (vTup (consO (oN 1) (nilO)))))) (consO (oC (.bool false)) (nilO))))) (consO (asO (vTup (consO (asO (vCut (oN 2) none (some (asO (ev1 gNeg (oC (.int 1))))))) (consO (oC (.bool false)) (nilO))))) (consO (asO (vTup (consO (asO (vRev (oN 2))) (consO (oC (.bool true)) (nilO))))) (consO (asO (vTup (consO (oC .none) (consO (oC (.bool false)) (nilO))))) (consO (asO (vTup (consO (oN 1) (consO (oC (.bool false)) (nilO))))) (consO (asO (vTup (consO (oC (.str (Str.ofString ""))) (consO (oC (.bool false)) (nilO))))) (nilO))))))))))) (sSeq (sFor (iSeq (asO (vLst (consO (oN 1) (consO (asO (ev1 gNeg (oC (.int 1)))) (consO (oC .none) (consO (asO (evP gStr (consO (asO (ev2 gSub1 (oN 2) (oN 3))) (nilO)))) (consO (asO (vTup (consO (asO (ev2 gSub1 (oN 2) (oN 3))) (nilO)))) (nilO))))))))) (gN 6) (sDrop (vApp 5 (asO (vTup (consO (asO (ev2 gAdd (asO (ev2 gAdd (asO (vCut (oN 2) none (some (oN 3)))) (asO (vTup (consO (oN 6) (nilO)))))) (asO (vCut (oN 2) (some (asO (ev2 gAdd (oN 3) (oC (.int 1))))) none)))) (consO (oC (.bool false)) (nilO)))))))) (sSeq (sIf (bV (ev2 gNe (oN 4) (oN 3))) (sDrop (vApp 5 (asO (vTup (consO (asO (ev2 gAdd (asO (ev2 gAdd (asO (vCut (oN 2) none (some (oN 3)))) (asO (vTup (consO (asO (ev2 gSub1 (oN 2) (oN 4))) (nilO)))))) (asO (vCut (oN 2) (some (asO (ev2 gAdd (oN 3) (oC (.int 1))))) none)))) (consO (oC (.bool false)) (nilO))))))) (sNext)) (sSeq (sFor (iEnu (oN 2)) (gT 2 (gConss (gN 7) (gConss (gN 6) (gNils)))) (sIf (bV (ev2 gLt (oN 6) (oC (.int 2)))) (sDrop (vApp 5 (asO (vTup (consO (asO (ev2 gAdd (asO (ev2 gAdd (asO (vCut (oN 2) none (some (oN 7)))) (asO (vTup (consO (asO (ev2 gEq (oN 6) (oC (.int 1)))) (nilO)))))) (asO (vCut (oN 2) (some (asO (ev2 gAdd (oN 7) (oC (.int 1))))) none)))) (consO (oC (.bool false)) (nilO))))))) (sNext))) (sRet (vMv 5))))))
noncomputable def ev_law_near_orders : EvF := defE 8 [true, false, false] bd_law_near_orders
noncomputable def bd_theLaw : EvS := sSeq (sSet 1 (callF [false, false] ev_law_draw (consO (oN 0) (consO (oC (.int 21)) (nilO))))) (sSeq (sPar 2 3 (callF [true, false] ev_law_of (consO (oN 1) (consO (asO (vLst (consO (oC (.int 0)) (consO (oC (.int 0)) (consO (oC (.int 2)) (consO (oC (.int 3)) (consO (oC (.int 7)) (consO (oC (.int 101)) (nilO))))))))) (nilO)))) (callF [true, false] ev_law_of (consO (oN 1) (consO (asO (vLst (consO (oC (.int 1)) (consO (oC (.int 2)) (consO (oC (.int 3)) (consO (oC (.int 4)) (consO (oC (.int 10)) (consO (asO (ev2 gAdd (oC (.int 1)) (asO (callF [true, false] anyF (consO (oN 1) (consO (oC (.int 10)) (nilO))))))) (nilO))))))))) (nilO))))) (sSeq (sSet 4 (callF [true, false] ev_law_order (consO (oN 1) (consO (oN 3) (nilO))))) (sSeq (sFor (iSeq (asO (callF [true, false, false] ev_law_near_orders (consO (oN 1) (consO (oN 3) (consO (oN 4) (nilO))))))) (gT 2 (gConss (gN 5) (gConss (gN 6) (gNils)))) (sIf (bOr (bNot (bV (callF [false, false] (ev_law_same 6) (consO (asO (callF [false, false] ev_is_order (consO (oN 3) (consO (oN 5) (nilO))))) (consO (oN 6) (nilO)))))) (bNot (bV (callF [false, false] (ev_law_same 6) (consO (asO (callF [false, false] ev_is_order (rowK 0 2 [1, 0] nilO (consO (oN 5) (consO (oN 3) (nilO)))))) (consO (oN 6) (nilO))))))) (sRet (vO (oC (.bool false)))) (sNext))) (sSeq (sSet 7 (callF [true, false, false, false] ev_law_some (consO (oN 1) (consO (oN 3) (consO (asO (callF [true, false] ev_law_of (consO (oN 1) (consO (asO (vLst (consO (oC (.int 2)) (consO (oC (.int 6)) (consO (oC (.int 14)) (nilO)))))) (nilO))))) (consO (asO (callF [true, false] ev_law_of (consO (oN 1) (consO (asO (vLst (consO (oC (.int 2)) (consO (oC (.int 4)) (consO (oC (.int 41)) (nilO)))))) (nilO))))) (nilO))))))) (sSeq (sSet 8 (callF [false, false] ev_along (consO (oN 4) (consO (asO (vIte (bV (ev2 gEq (asO (callF [true, false] anyF (consO (oN 1) (consO (oC (.int 2)) (nilO))))) (oC (.int 0)))) (vO (oN 7)) (evP gTuple (consO (oN 7) (nilO))))) (nilO))))) (sSeq (sIf (bOr (bNot (bV (eIsi [.tuple] (oN 8)))) (bOr (bV (ev2 gNe (asO (evP gLen (consO (oN 8) (nilO)))) (asO (evP gLen (consO (oN 7) (nilO)))))) (bV (ev2 gNe (asO (vLc (iSeq (oN 7)) (gN 9) (bV (ev2 gNotIn (oN 9) (oN 8))) (oN 9) [9])) (asO (vLst (nilO))))))) (sRet (vO (oC (.bool false)))) (sNext)) (sSeq (sIf (bOr (bV (ev2 gNe (asO (vLc (Pf.iRng1 (asO (ev2 Pf.gSub (asO (evP gLen (consO (oN 8) (nilO)))) (oC (.int 1))))) (gN 17) (bNot (bV (callF [false, false, false] ev_law_is_ahead (consO (oN 4) (consO (asO (ev2 gSub1 (oN 8) (oN 17))) (consO (asO (ev2 gSub1 (oN 8) (asO (ev2 gAdd (oN 17) (oC (.int 1)))))) (nilO))))))) (oN 17) [17])) (asO (vLst (nilO))))) (bNot (bV (callF [false, false] (ev_law_same 6) (consO (asO (callF [false, false] ev_along (rowK 0 2 [1, 0] nilO (consO (asO (vRev (oN 8))) (consO (oN 4) (nilO)))))) (consO (oN 8) (nilO))))))) (sRet (vO (oC (.bool false)))) (sNext)) (sSeq (sFor (iSeq (asO (vCut (oN 7) none (some (oC (.int 5)))))) (gN 9) (sFor (iSeq (oN 7)) (gN 16) (sIf (bNot (bV (callF [false, false] (ev_law_same 6) (consO (asO (callF [false, false, false] ev_is_ahead (consO (oN 4) (consO (oN 9) (consO (oN 16) (nilO)))))) (consO (asO (callF [false, false, false] ev_law_is_ahead (consO (oN 4) (consO (oN 9) (consO (oN 16) (nilO)))))) (nilO)))))) (sRet (vO (oC (.bool false)))) (sNext)))) (sSeq (sPar 10 11 (callF [true, false, false, false, false] ev_law_polynomial (consO (oN 1) (consO (oN 2) (consO (oN 3) (consO (asO (callF [true, false] anyF (consO (oN 1) (consO (oC (.int 7)) (nilO))))) (consO (oC (.int 20)) (nilO))))))) (callF [true, false, false, false, false] ev_law_polynomial (consO (oN 1) (consO (oN 2) (consO (oN 3) (consO (asO (callF [true, false] anyF (consO (oN 1) (consO (oC (.int 7)) (nilO))))) (consO (oC (.int 20)) (nilO)))))))) (sSeq (sUnp (gT 2 (gConss (gN 12) (gConss (gN 13) (gNils)))) (vTup (consO (asO (callF [false, false] ev_law_due_head (consO (oN 10) (consO (oN 4) (nilO))))) (consO (asO (callF [false, false] ev_law_due_head (consO (oN 11) (consO (oN 4) (nilO))))) (nilO))))) (sSeq (sIf (bOr (bNot (bV (callF [false, false] (ev_law_same 6) (consO (asO (callF [false, false] ev_head (consO (oN 10) (consO (oN 4) (nilO))))) (consO (oN 12) (nilO)))))) (bOr (bNot (bV (callF [false, false] (ev_law_same 6) (consO (asO (callF [false, false] ev_head (rowK 0 2 [1, 0] nilO (consO (oN 4) (consO (oN 11) (nilO)))))) (consO (oN 13) (nilO)))))) (bV (ev2 gIsNot (asO (callF [false, false] ev_head (consO (asO (vTup (nilO))) (consO (oN 4) (nilO))))) (oC .none))))) (sRet (vO (oC (.bool false)))) (sNext)) (sSeq (sSet 14 (callF [false, false, false] ev_times (consO (oN 2) (consO (oN 10) (consO (oN 11) (nilO)))))) (sSeq (sIf (bOr (bV (ev2 gIs (oN 12) (oC .none))) (bV (ev2 gIs (oN 13) (oC .none)))) (sRet (ev2 gIs (asO (callF [false, false] ev_head (consO (oN 14) (consO (oN 4) (nilO))))) (oC .none))) (sNext)) (sSeq (sSet 6 (callF [false, false] ev_law_plus_powers (consO (oN 12) (consO (oN 13) (nilO))))) (sSeq (sIf (bNot (bV (callF [false, false] (ev_law_same 6) (consO (asO (callF [false, false] ev_head (consO (oN 14) (consO (oN 4) (nilO))))) (consO (oN 6) (nilO)))))) (sRet (vO (oC (.bool false)))) (sNext)) (sSeq (sSet 15 (ev2 gMul (asO (ev2 gSub1 (asO (vLc (iSeq (oN 10)) (gT 2 (gConss (gN 18) (gConss (gN 19) (gNils)))) (bV (ev2 gEq (oN 18) (oN 12))) (oN 19) [18, 19])) (oC (.int 0)))) (asO (ev2 gSub1 (asO (vLc (iSeq (oN 11)) (gT 2 (gConss (gN 18) (gConss (gN 19) (gNils)))) (bV (ev2 gEq (oN 18) (oN 13))) (oN 19) [18, 19])) (oC (.int 0)))))) (sRet (callF [false, false] (ev_law_same 6) (consO (asO (callF [false, false] ev_factor_of (consO (oN 14) (consO (oN 6) (nilO))))) (consO (asO (callF [false, false] ev_law_element (consO (oN 2) (consO (oN 15) (nilO))))) (nilO)))))))))))))))))))))
noncomputable def ev_theLaw : EvF := defE 20 [false] bd_theLaw
end Pf
/-! PlA: tuples of numbers as data. -/
namespace Pf
open PySem PySem.Spec
def uT (l : List Int) : PyData := .tuple (l.map .int)
def uL (l : List Int) : PyData := .list (l.map .int)
theorem tI_inj {a b : List Int} (h : uT a = uT b) : a = b := by
  have h' : a.map PyData.int = b.map PyData.int := by simpa [uT] using h
  exact (List.map_inj_right (fun x y e => by cases e; rfl)).mp h'
theorem canLay_tI (l : List Int) : PyData.canLay0 (uT l) = true := by simp [uT, PyData.canLay0, canLay_ints l]
theorem depth_tI (l : List Int) : PyData.depth (uT l) ≤ 2 := by
  have := depth_ints l
  simp only [uT, PyData.depth]
  omega
theorem noDicts_ints : ∀ l : List Int, noDicts (l.map .int) = true
  | [] => by simp [noDicts]
  | c :: cs => by simp [noDicts, noDict, noDicts_ints cs]
theorem sh_tI (l : List Int) : Sh (uT l) := by
  refine ⟨by simp [uT, noDict, noDicts_ints l], ?_⟩
  unfold SeqAt.shaped
  rw [canLay_tI]
  have := depth_tI l
  simp
  omega
theorem sh_lI (l : List Int) : Sh (uL l) := by
  refine ⟨by simp [uL, noDict, noDicts_ints l], ?_⟩
  unfold SeqAt.shaped
  have := depth_ints l
  have h2 := canLay_ints l
  simp [uL, PyData.canLay0, h2, PyData.depth]
  omega
theorem sh_bool (i : Bool) : Sh (.bool i) := ⟨by simp [noDict], by simp [SeqAt.shaped, PyData.canLay0, PyData.depth]⟩
theorem imms_ints : ∀ l : List Int, imms (l.map .int) = true
  | [] => by simp [imms]
  | c :: cs => by simp [imms, imm, imms_ints cs]
theorem imm_tI (l : List Int) : imm (uT l) = true := by simp [uT, imm, imms_ints l]
theorem eqvAll_ints : ∀ a b : List Int, PyData.eqvAll (a.map .int) (b.map .int) = decide (a = b)
  | [], [] => by simp [PyData.eqvAll]
  | [], _ :: _ => by simp [PyData.eqvAll]
  | _ :: _, [] => by simp [PyData.eqvAll]
  | x :: a, y :: b => by
    simp only [List.map_cons, PyData.eqvAll, eqvAll_ints a b, PyData.eqv]
    by_cases h : x = y <;> simp [h]
theorem eqv_tI (a b : List Int) : PyData.eqv (uT a) (uT b) = decide (a = b) := by
  simp only [uT, PyData.eqv]
  exact eqvAll_ints a b
theorem eqv_lI (a b : List Int) : PyData.eqv (uL a) (uL b) = decide (a = b) := by
  simp only [uL, PyData.eqv]
  exact eqvAll_ints a b
theorem alikeAll_ints : ∀ a b : List Int, PySem.W.alikeAll (a.map .int) (b.map .int) = true
  | [], [] => by simp [PySem.W.alikeAll]
  | [], _ :: _ => by simp [PySem.W.alikeAll]
  | _ :: _, [] => by simp [PySem.W.alikeAll]
  | x :: a, y :: b => by simp [PySem.W.alikeAll, PySem.W.alike, alikeAll_ints a b]
theorem alike_tI (a b : List Int) : PySem.W.alike (uT a) (uT b) = true := by
  simp only [uT, PySem.W.alike]
  exact alikeAll_ints a b
/-- lexicographic, numbers -/
def lexI : List Int → List Int → Bool
  | [], [] => false
  | [], _ :: _ => true
  | _ :: _, [] => false
  | x :: a, y :: b => if x = y then lexI a b else decide (x < y)
open PyProof.Rows in
theorem toks_lt : ∀ a b : List Int, ∀ l m : List (Int ⊕ List Nat), PyProof.Rows.lexLt PyProof.Rows.itemOrd (PySem.W.keyToksAll (a.map .int) ++ l) (PySem.W.keyToksAll (b.map .int) ++ m) = if a = b then PyProof.Rows.lexLt PyProof.Rows.itemOrd l m else lexI a b
  | [], [], l, m => by
    rw [if_pos rfl]
    simp only [List.map_nil, PySem.W.keyToksAll]
    exact PySem.W.lex_pre [.inl 0] l m
  | [], y :: b, l, m => by
    rw [if_neg (by simp)]
    simp only [List.map_nil, List.map_cons, PySem.W.keyToksAll, lexI]
    rfl
  | x :: a, [], l, m => by
    rw [if_neg (by simp)]
    simp only [List.map_nil, List.map_cons, PySem.W.keyToksAll, lexI]
    rfl
  | x :: a, y :: b, l, m => by
    simp only [List.map_cons, PySem.W.keyToksAll, PySem.W.keyToks, lexI]
    have ih := toks_lt a b l m
    by_cases h : x = y
    · subst h
      have e1 : ∀ t : List (Int ⊕ List Nat), (Sum.inl 1 :: ([Sum.inl x] ++ t)) = [Sum.inl 1, Sum.inl x] ++ t := fun t => rfl
      have e2 : (Sum.inl 1 :: ([Sum.inl x] ++ PySem.W.keyToksAll (a.map .int))) ++ l = [Sum.inl 1, Sum.inl x] ++ (PySem.W.keyToksAll (a.map .int) ++ l) := rfl
      have e3 : (Sum.inl 1 :: ([Sum.inl x] ++ PySem.W.keyToksAll (b.map .int))) ++ m = [Sum.inl 1, Sum.inl x] ++ (PySem.W.keyToksAll (b.map .int) ++ m) := rfl
      rw [e2, e3, PySem.W.lex_pre, ih]
      simp
    · have hne : ¬ (x :: a = y :: b) := by simp [h]
      rw [if_neg h, if_neg hne]
      show PyProof.Rows.lexLt PyProof.Rows.itemOrd ([Sum.inl 1] ++ (Sum.inl x :: _)) ([Sum.inl 1] ++ (Sum.inl y :: _)) = _
      rw [PySem.W.lex_pre, PySem.W.lex_atom (by simpa using h)]
      simp only [PyProof.Rows.lexLt]
      show (decide (x < y) || (!decide (y < x) && false)) = decide (x < y)
      simp
theorem dataLt_tI (a b : List Int) : PySem.W.dataLt (uT a) (uT b) = lexI a b := by
  unfold PySem.W.dataLt
  have h := toks_lt a b [] []
  simp only [List.append_nil] at h
  simp only [uT, PySem.W.keyToks]
  rw [h]
  split
  · rename_i e
    subst e
    have : ∀ l : List Int, lexI l l = false := fun l => by
      induction l with
      | nil => rfl
      | cons x l ih => simp [lexI, ih]
    rw [this]
    rfl
  · rfl
theorem cmp_tI (a b : List Int) : Cmp2 (uT a) (uT b) := ⟨sh_tI a, sh_tI b, alike_tI a b, by simp [uT]⟩
/-! ### the order lexI -/
theorem lexI_irrefl : ∀ a : List Int, lexI a a = false
  | [] => rfl
  | x :: a => by simp [lexI, lexI_irrefl a]
theorem lexI_trans : ∀ {a b c : List Int}, lexI a b = true → lexI b c = true → lexI a c = true
  | [], [], _, h, _ => by cases h
  | [], _ :: _, [], _, h => by cases h
  | [], _ :: _, _ :: _, _, _ => rfl
  | _ :: _, [], _, h, _ => by cases h
  | _ :: _, _ :: _, [], _, h => by cases h
  | x :: a, y :: b, z :: c, h1, h2 => by
    simp only [lexI] at h1 h2 ⊢
    by_cases e1 : x = y
    · subst e1
      rw [if_pos rfl] at h1
      by_cases e2 : x = z
      · subst e2
        rw [if_pos rfl] at h2 ⊢
        exact lexI_trans h1 h2
      · rw [if_neg e2] at h2 ⊢
        exact h2
    · rw [if_neg e1] at h1
      have h1 := of_decide_eq_true h1
      by_cases e2 : y = z
      · subst e2
        rw [if_neg e1]
        exact decide_eq_true h1
      · rw [if_neg e2] at h2
        have h2 := of_decide_eq_true h2
        rw [if_neg (by omega)]
        exact decide_eq_true (by omega)
theorem lexI_total : ∀ (a b : List Int), lexI a b = false → lexI b a = false → a = b
  | [], [], _, _ => rfl
  | [], _ :: _, h, _ => by cases h
  | _ :: _, [], _, h => by cases h
  | x :: a, y :: b, h1, h2 => by
    simp only [lexI] at h1 h2
    by_cases e : x = y
    · subst e
      rw [if_pos rfl] at h1 h2
      rw [lexI_total a b h1 h2]
    · rw [if_neg e] at h1
      rw [if_neg (Ne.symm e)] at h2
      have := of_decide_eq_false h1
      have := of_decide_eq_false h2
      omega
theorem lexI_asymm {a b : List Int} (h : lexI a b = true) : lexI b a = false := by
  cases e : lexI b a with
  | false => rfl
  | true =>
    have := lexI_trans h e
    rw [lexI_irrefl] at this
    cases this
/-- adding the same, place by place, keeps the order -/
theorem lexI_add : ∀ {a b c : List Int}, a.length = c.length → b.length = c.length → lexI (a.zipWith (· + ·) c) (b.zipWith (· + ·) c) = lexI a b
  | [], [], [], _, _ => rfl
  | [], [], _ :: _, h, _ => by simp at h
  | _ :: _, _, [], h, _ => by simp at h
  | _, _ :: _, [], _, h => by simp at h
  | [], _ :: _, _ :: _, h, _ => by simp at h
  | _ :: _, [], _ :: _, _, h => by simp at h
  | x :: a, y :: b, z :: c, h1, h2 => by
    simp only [List.zipWith_cons_cons, lexI]
    rw [lexI_add (by simpa using h1) (by simpa using h2)]
    by_cases e : x = y
    · subst e; simp
    · have : ¬ x + z = y + z := by omega
      rw [if_neg e, if_neg this]
      simp
end Pf
/-! PlB: the package's functions on powers, as evaluators. -/
namespace Pf
open PySem PySem.Spec
/-- an order as data; the numbers of a list of places -/
def nI (os : List Nat) : List Int := os.map Int.ofNat
def rk (os : List Nat) (ps : List Int) : List Int := os.reverse.map fun o => ps.getD o 0
def pick (ps : List Int) : PyData → PyData
  | .int o => .int (ps.getD o.toNat 0)
  | _ => .none
theorem atI_at {ps : List Int} {o : Nat} (h : o < ps.length) : L2.atI (ps.map PyData.int) (o : Int) = some (.int (ps.getD o 0)) := by
  have : (ps.map PyData.int)[o]? = some (.int (ps.getD o 0)) := by
    rw [List.getElem?_map, List.getElem?_eq_getElem h]
    simp [List.getD_eq_getElem?_getD, h]
  exact L2.atI_nat this
theorem rank_of {os : List Nat} {ps : List Int} (h : ∀ o ∈ os, o < ps.length) (hf : Fits os.length) : ev_rank [.val (uT (nI os)), .val (uT ps)] = some (.val (uT (rk os ps)), [.no, .no]) := by
  have e : uT (rk os ps) = .tuple (((nI os).map PyData.int).reverse.map (pick ps)) := by
    simp [uT, rk, nI, pick, Function.comp_def]
  rw [e]
  unfold ev_rank bd_rank
  refine defE_rt [.val (uT (nI os)), .val (uT ps), .no] (by rfl) (sRet_of (evP_of (consO_of (asO_of (vLc_of (e1 := [.val (uT (nI os)), .val (uT ps), .no]) (ds := ((nI os).map PyData.int).reverse) (by rfl) (lcF_all (f := pick ps) ?_) ?_) (by rfl)) (by rfl)) (by rfl) (by rfl))) (by rfl)
  · intro d m
    simp [nI] at m
    obtain ⟨o, mo, rfl⟩ := m
    have hg : gSub1 [uT ps, .int (o : Int)] = some (.val (pick ps (.int (o : Int)))) := by
      show (L2.atI _ _).map Slot.val = _
      rw [atI_at (h o mo)]
      rfl
    exact lcT_of (by rfl) (by rfl) (asO_of (evP_of (by rfl) (by rfl) (by exact hg)) (by rfl)) (by rfl) (by rfl)
  · simp [nI]; exact hf
theorem is_ahead_of {os : List Nat} {a b : List Int} (ha : ∀ o ∈ os, o < a.length) (hb : ∀ o ∈ os, o < b.length) (hf : Fits os.length) :
    ev_is_ahead [.val (uT (nI os)), .val (uT a), .val (uT b)] = some (.val (.bool (lexI (rk os a) (rk os b))), [.no, .no, .no]) := by
  unfold ev_is_ahead bd_is_ahead
  have hl : gLt [uT (rk os a), uT (rk os b)] = some (.val (.bool (lexI (rk os a) (rk os b)))) := by rw [gLt_of (cmp_tI _ _), dataLt_tI]
  exact defE_rt [.val (uT (nI os)), .val (uT a), .val (uT b)] (by rfl) (sRet_of (evP_of (consO_of (asO_of (callF_of (by rfl) (by rfl) (by rfl) (by rfl) (by rfl) (by exact rank_of ha hf) (by rfl)) (by rfl)) (consO_of (asO_of (callF_of (by rfl) (by rfl) (by rfl) (by rfl) (by rfl) (by exact rank_of hb hf) (by rfl)) (by rfl)) (by rfl))) (by rfl) (by exact hl))) (by rfl)
/-- the pair by which powers are put in order -/
def prD (os : List Nat) (a : List Int) : PyData := .tuple [uT (rk os a), uT a]
def srt (os : List Nat) (l : List (List Int)) : List (List Int) := l.mergeSort fun a b => !PySem.W.dataLt (prD os b) (prD os a)
theorem sh_pr (os : List Nat) (a : List Int) : Sh (prD os a) := by
  have h1 := sh_tI (rk os a)
  have h2 := sh_tI a
  have d1 := depth_tI (rk os a)
  have d2 := depth_tI a
  refine ⟨by simp [prD, noDict, noDicts, h1.1, h2.1], ?_⟩
  unfold SeqAt.shaped
  rw [Bool.and_eq_true]
  constructor
  · simp [prD, PyData.canLay0, PyData.canLayAll0, canLay_tI]
  · simp only [prD, PyData.depth, PyData.depthAll]
    exact decide_eq_true (by omega)
theorem alike_pr (os : List Nat) (a b : List Int) : PySem.W.alike (prD os a) (prD os b) = true := by simp [prD, PySem.W.alike, PySem.W.alikeAll, alike_tI]
theorem sortOk_pr (os : List Nat) (l : List (List Int)) : SortOk (l.map (prD os)) := by
  refine ⟨fun d m d' m' => ?_, .inl fun d m => ?_, fun d m => ?_⟩
  · obtain ⟨a, _, rfl⟩ := List.mem_map.mp m
    obtain ⟨b, _, rfl⟩ := List.mem_map.mp m'
    exact alike_pr os a b
  · obtain ⟨a, _, rfl⟩ := List.mem_map.mp m
    exact ⟨_, _, rfl⟩
  · obtain ⟨a, _, rfl⟩ := List.mem_map.mp m
    exact sh_pr os a
theorem sort_pr (os : List Nat) (l : List (List Int)) : sortD (l.map (prD os)) = (srt os l).map (prD os) := by
  unfold sortD srt
  symm
  exact List.map_mergeSort (f := prD os) fun a _ b _ => rfl
theorem along_of {os : List Nat} {l : List (List Int)} {S : PyData} (hS : seqOf S = some (l.map uT)) (h : ∀ a ∈ l, ∀ o ∈ os, o < a.length) (hf : Fits os.length) (hl : Fits l.length) :
    ev_along [.val (uT (nI os)), .val S] = some (.val (.tuple ((srt os l).map uT)), [.no, .no]) := by
  unfold ev_along bd_along
  have h2 : Fits 2 := show 2 ≤ 16777216 by decide
  have hs : gSorted [.list (l.map (prD os))] = some (.own (.list ((srt os l).map (prD os)))) := by rw [gSorted_of (sortOk_pr os l), sort_pr]
  have hlen : (srt os l).length = l.length := List.length_mergeSort l
  refine defE_rt [.val (uT (nI os)), .val S, .no, .no, .no] (by rfl) (sRet_of (evP_of (consO_of (asO_of (vLc_of (e1 := [.val (uT (nI os)), .val S, .no, .no, .no]) (ds := (srt os l).map (prD os)) (iSeq_of (asO_of (evP_of (consO_of (asO_of (vLc_of (e1 := [.val (uT (nI os)), .val S, .no, .no, .no]) (iSeq_of (by rfl) (by rfl) hS) (lcF_allm (f := prD os) ?_) ?_) (by rfl)) (by rfl)) (by rfl) (by exact hs)) (by rfl)) (by rfl) (by rfl)) (lcF_allm (f := uT) ?_) ?_) (by rfl)) (by rfl)) (by rfl) (by rfl))) (by rfl)
  · intro a m
    exact lcT_of (by rfl) (by rfl) (asO_of (vTup_of (consO_of (asO_of (callF_of (by rfl) (by rfl) (by rfl) (by rfl) (by rfl) (by exact rank_of (h a m) hf) (by rfl)) (by rfl)) (by rfl)) (by rfl) (by exact h2)) (by rfl)) (by rfl) (by rfl)
  · simpa using hl
  · intro a m
    exact lcT_of (by rfl) (by rfl) (by rfl) (by rfl) (by rfl)
  · simp [hlen]; exact hl
/-- a polynomial as data -/
def tmD (t : List Int × Int) : PyData := .tuple [uT t.1, .int t.2]
def pD (P : List (List Int × Int)) : PyData := .tuple (P.map tmD)
theorem canLay_tm (t : List Int × Int) : PyData.canLay0 (tmD t) = true := by simp [tmD, PyData.canLay0, PyData.canLayAll0, canLay_tI]
theorem depth_tm (t : List Int × Int) : PyData.depth (tmD t) ≤ 3 := by
  have := depth_tI t.1
  simp only [tmD, PyData.depth, PyData.depthAll]
  omega
theorem sh_pD (P : List (List Int × Int)) : Sh (pD P) := by
  have h : ∀ P : List (List Int × Int), noDicts (P.map tmD) = true ∧ PyData.canLayAll0 (P.map tmD) = true ∧ PyData.depthAll (P.map tmD) ≤ 3 := fun P => by
    induction P with
    | nil => simp [noDicts, PyData.canLayAll0, PyData.depthAll]
    | cons t P ih =>
      obtain ⟨h1, h2, h3⟩ := ih
      have := depth_tm t
      refine ⟨?_, ?_, ?_⟩
      · have : noDict (tmD t) = true := by simp [tmD, noDict, noDicts, (sh_tI t.1).1]
        simp [noDicts, this, h1]
      · simp [PyData.canLayAll0, canLay_tm, h2]
      · simp only [List.map_cons, PyData.depthAll]
        omega
  obtain ⟨h1, h2, h3⟩ := h P
  refine ⟨by simp [pD, noDict, h1], ?_⟩
  unfold SeqAt.shaped
  rw [Bool.and_eq_true]
  constructor
  · simp [pD, PyData.canLay0, h2]
  · simp only [pD, PyData.depth]
    exact decide_eq_true (by omega)
theorem eqv_pD_nil (P : List (List Int × Int)) : PyData.eqv (pD P) (.tuple []) = decide (P = []) := by
  cases P <;> simp [pD, PyData.eqv, PyData.eqvAll]
/-- the head: the last in the order -/
def hdD : List (List Int) → PyData := fun l => match l.getLast? with
  | some a => uT a
  | none => .none
theorem head_of {os : List Nat} {P : List (List Int × Int)} (h : ∀ t ∈ P, ∀ o ∈ os, o < t.1.length) (hf : Fits os.length) (hl : Fits P.length) :
    ev_head [.val (pD P), .val (uT (nI os))] = some (.val (hdD (srt os (P.map (·.1)))), [.no, .no]) := by
  unfold ev_head bd_head
  have h0 : Fits 0 := show 0 ≤ 16777216 by decide
  have he : gEq [pD P, .tuple []] = some (.val (.bool (decide (P = [])))) := by rw [gEq_of (sh_pD P) ⟨by simp [noDict, noDicts], by decide⟩, eqv_pD_nil]
  have hc : (bV (ev2 gEq (oN 0) (asO (vTup nilO)))) [.val (pD P), .val (uT (nI os)), .no, .no] = some (decide (P = []), [.val (pD P), .val (uT (nI os)), .no, .no]) :=
    bV_of (evP_of (consO_of (by rfl) (consO_of (asO_of (vTup_of (by rfl) (by rfl) (by exact h0)) (by rfl)) (by rfl))) (by rfl) (by exact he))
  by_cases hP : P = []
  · subst hP
    have e0 : hdD (srt os (List.map (fun x => x.1) ([] : List (List Int × Int)))) = .none := by simp [srt, hdD]
    rw [e0]
    exact defE_rt [.val (pD []), .val (uT (nI os)), .no, .no] (by rfl) ((sSeq_rt ((sIf_t hc).trans (by rfl)))) (by rfl)
  · rw [show decide (P = []) = false from decide_eq_false hP] at hc
    refine defE_rt (e := [.val (pD P), .val (uT (nI os)), .no, .no]) [.val (pD P), .val (uT (nI os)), .no, .no] (by rfl) ((sSeq_nx ((sIf_f hc).trans (by rfl))).trans ?_) (by rfl)
    have hlen : (srt os (P.map (·.1))).length = P.length := by
      have := List.length_mergeSort (le := fun a b => !PySem.W.dataLt (prD os b) (prD os a)) (P.map (·.1))
      simpa [srt] using this
    have hlast : ∃ a, (srt os (P.map (·.1))).getLast? = some a := by
      cases e : (srt os (P.map (·.1))).getLast? with
      | none =>
        rw [List.getLast?_eq_none_iff] at e
        rw [e] at hlen
        exact absurd (List.length_eq_zero_iff.mp hlen.symm) hP
      | some a => exact ⟨a, rfl⟩
    obtain ⟨a, ha⟩ := hlast
    have hg : gSub1 [.tuple ((srt os (P.map (·.1))).map uT), .int (-1)] = some (.val (hdD (srt os (P.map (·.1))))) := by
      show (L2.atI _ _).map Slot.val = _
      obtain ⟨ys, ey⟩ := List.getLast?_eq_some_iff.mp ha
      have e : (srt os (P.map (·.1))).map uT = ys.map uT ++ [uT a] := by rw [ey]; simp
      rw [e, L2.atI_last]
      simp [hdD, ha]
    refine sRet_of (evP_of (consO_of (asO_of (callF_of (consO_of (by rfl) (consO_of (asO_of (vLc_of (e1 := [.val (pD P), .val (uT (nI os)), .no, .no]) (ds := P.map tmD) (by rfl) (lcF_allm (f := fun t => uT t.1) ?_) ?_) (by rfl)) (by rfl))) (by rfl) (by rfl) (by rfl) (by rfl)
      (by exact along_of (l := P.map (·.1)) (by rw [List.map_map]; rfl) (fun b m => by obtain ⟨t, mt, rfl⟩ := List.mem_map.mp m; exact h t mt) hf (by simpa using hl)) (by rfl)) (by rfl)) (by rfl)) (by rfl) (by exact hg))
    · intro t m
      exact lcT_of (by rfl) (by rfl) (by rfl) (by rfl) (by rfl)
    · simpa using hl
end Pf
/-! PlC: polynomials multiplied, as evaluators. -/
namespace Pf
open PySem PySem.Spec
def el (p x : Int) : Int := if p = 0 then x else x % p
theorem element_of {p x : Int} (hp : 0 ≤ p) : ev_element [.val (.int p), .val (.int x)] = some (.val (.int (el p x)), [.no, .no]) := by
  unfold ev_element bd_element
  have hc : (bV (ev2 gEq (oN 0) (oC (.int 0)))) [.val (.int p), .val (.int x)] = some (decide (p = 0), [.val (.int p), .val (.int x)]) := bV_of (evP_of (by rfl) (by rfl) (by exact gEq_int))
  by_cases h : p = 0
  · subst h
    exact defE_rt [.val (.int 0), .val (.int x)] (by rfl) (sRet_of ((vIte_t hc).trans (by rfl))) (by rfl)
  · rw [decide_eq_false h] at hc
    have hm := gMod_of (a := x) (show 0 < p by omega)
    have e : el p x = x % p := if_neg h
    rw [e]
    exact defE_rt [.val (.int p), .val (.int x)] (by rfl) (sRet_of ((vIte_f hc).trans (evP_of (by rfl) (by rfl) (by exact hm)))) (by rfl)
theorem law_element_of {p x : Int} (hp : 0 ≤ p) : ev_law_element [.val (.int p), .val (.int x)] = some (.val (.int (el p x)), [.no, .no]) := element_of hp
/-! ### sums by powers -/
abbrev Asc := List (List Int × Int)
def em (t : List Int × Int) : PyData × PyData := (uT t.1, .int t.2)
def fD (F : Asc) : PyData := .dict (F.map em)
def getF (F : Asc) (k : List Int) : Option Int := (F.find? fun t => decide (t.1 = k)).map (·.2)
def putF (F : Asc) (k : List Int) (v : Int) : Asc := if (F.any fun t => decide (t.1 = k)) = true then F.map fun t => if t.1 = k then (t.1, v) else t else F ++ [(k, v)]
def addF (F : Asc) (k : List Int) (c : Int) : Asc := putF F k ((getF F k).getD 0 + c)
theorem uT_iff {a b : List Int} : (uT a = uT b) ↔ a = b := ⟨tI_inj, fun e => by rw [e]⟩
theorem dget_fD (F : Asc) (k : List Int) : dget (F.map em) (uT k) = (getF F k).map .int := by
  unfold dget getF
  induction F with
  | nil => rfl
  | cons t F ih =>
    simp only [List.map_cons, List.find?_cons, em]
    by_cases h : t.1 = k
    · simp [h]
    · have : ¬ uT t.1 = uT k := fun e => h (tI_inj e)
      simp only [h, this, decide_false]
      exact ih
theorem any_fD (F : Asc) (k : List Int) : ((F.map em).any fun p => decide (p.1 = uT k)) = F.any fun t => decide (t.1 = k) := by
  rw [List.any_map]
  congr 1
  funext t
  simp only [Function.comp, em, uT_iff]
theorem dput_fD (F : Asc) (k : List Int) (v : Int) : dput (F.map em) (uT k) (.int v) = (putF F k v).map em := by
  unfold dput putF
  rw [any_fD]
  split
  · rw [List.map_map, List.map_map]
    congr 1
    funext t
    simp only [Function.comp, em, uT_iff]
    split <;> rfl
  · simp [em]
theorem isKey_uT (k : List Int) : IsKey (uT k) (.inr (k.map .inl)) := by
  have e : uT k = encKs (k.map .inl) := by simp [uT, encKs, encK, Function.comp_def]
  rw [e]
  exact .row _
theorem oneKind_fD (F : Asc) (k : List Int) : OneKind (F.map em) (uT k) := ⟨⟨_, isKey_uT k⟩, .inr ⟨fun p m => by
  obtain ⟨t, _, rfl⟩ := List.mem_map.mp m
  exact ⟨_, isKey_uT t.1⟩, _, isKey_uT k⟩⟩
theorem getF_putF (F : Asc) (k : List Int) (v : Int) (k' : List Int) : getF (putF F k v) k' = if k' = k then some v else getF F k' := by
  unfold putF
  induction F with
  | nil =>
    simp only [List.any_nil, Bool.false_eq_true, if_false, List.nil_append, getF, List.find?_cons, List.find?_nil]
    by_cases h : k' = k
    · simp [h]
    · simp [h, Ne.symm h]
  | cons t F ih =>
    by_cases h : t.1 = k
    · simp only [List.any_cons, h, decide_true, Bool.true_or, if_true, List.map_cons, getF, List.find?_cons]
      by_cases h2 : k' = k
      · simp [h2]
      · simp only [h2, if_false, Ne.symm h2, decide_false]
        have : ((F.map fun t => if t.1 = k then (t.1, v) else t).find? fun t => decide (t.1 = k')).map (·.2) = (F.find? fun t => decide (t.1 = k')).map (·.2) := by
          clear ih
          induction F with
          | nil => rfl
          | cons u F ih =>
            simp only [List.map_cons, List.find?_cons]
            by_cases h3 : u.1 = k
            · have h4 : ¬ u.1 = k' := fun e => h2 (e.symm.trans h3)
              simp only [h3, if_true]
              rw [← h3] 
              simp only [h4, decide_false]
              rw [h3]
              exact ih
            · simp only [h3, if_false]
              split
              · rfl
              · exact ih
        exact this
    · by_cases ha : (F.any fun t => decide (t.1 = k)) = true
      · simp only [List.any_cons, h, decide_false, Bool.false_or, ha, if_true, List.map_cons, if_false] at ih ⊢
        simp only [getF, List.find?_cons] at ih ⊢
        by_cases h3 : t.1 = k'
        · have : ¬ k' = k := fun e => h (h3.trans e)
          simp [h3, this]
        · simp only [h3, decide_false]
          exact ih
      · simp only [List.any_cons, h, decide_false, Bool.false_or, ha, Bool.false_eq_true, if_false, List.cons_append] at ih ⊢
        simp only [getF, List.find?_cons] at ih ⊢
        by_cases h3 : t.1 = k'
        · have : ¬ k' = k := fun e => h (h3.trans e)
          simp [h3, this]
        · simp only [h3, decide_false]
          exact ih
theorem keys_putF (F : Asc) (k : List Int) (v : Int) : (putF F k v).map (·.1) = if k ∈ F.map (·.1) then F.map (·.1) else F.map (·.1) ++ [k] := by
  have e : (F.any fun t => decide (t.1 = k)) = decide (k ∈ F.map (·.1)) := by
    rw [Bool.eq_iff_iff]
    simp
  unfold putF
  rw [e]
  by_cases h : k ∈ F.map (·.1)
  · rw [if_pos (decide_eq_true h), if_pos h, List.map_map]
    congr 1
    funext t
    simp only [Function.comp]
    split <;> rfl
  · rw [if_neg (by simpa using h), if_neg h]
    simp
theorem nodup_putF {F : Asc} {k : List Int} {v : Int} (h : (F.map (·.1)).Nodup) : ((putF F k v).map (·.1)).Nodup := by
  rw [keys_putF]
  split
  · exact h
  · rename_i hk
    exact List.nodup_append.mpr ⟨h, by simp, fun a ha b hb => by simp at hb; subst hb; exact fun e => hk (e ▸ ha)⟩
theorem len_putF (F : Asc) (k : List Int) (v : Int) : (putF F k v).length ≤ F.length + 1 := by
  have := congrArg List.length (keys_putF F k v)
  rw [List.length_map] at this
  rw [this]
  split
  · simp
  · simp
end Pf
/-! PlD: gathered, times, factor_of, tidy. -/
namespace Pf
open PySem PySem.Spec
def srtK (l : List (List Int)) : List (List Int) := l.mergeSort fun a b => !lexI b a
theorem sort_uT (l : List (List Int)) : sortD (l.map uT) = (srtK l).map uT := by
  unfold sortD srtK
  symm
  exact List.map_mergeSort (f := uT) fun a _ b _ => by rw [dataLt_tI]
theorem sortOk_uT {l : List (List Int)} (h : ∀ k ∈ l, k ≠ []) : SortOk (l.map uT) := by
  refine ⟨fun d m d' m' => ?_, .inl fun d m => ?_, fun d m => ?_⟩
  · obtain ⟨a, _, rfl⟩ := List.mem_map.mp m
    obtain ⟨b, _, rfl⟩ := List.mem_map.mp m'
    exact alike_tI a b
  · obtain ⟨a, ma, rfl⟩ := List.mem_map.mp m
    cases a with
    | nil => exact absurd rfl (h _ ma)
    | cons x a => exact ⟨.int x, a.map .int, rfl⟩
  · obtain ⟨a, _, rfl⟩ := List.mem_map.mp m
    exact sh_tI a
def tms (p : Int) (F : Asc) : Asc := (srtK (F.map (·.1))).map fun k => (k, el p ((getF F k).getD 0))
def gath (p : Int) (F : Asc) : Asc := (tms p F).filter fun t => !decide (t.2 = 0)
theorem getF_mem {F : Asc} {k : List Int} (h : k ∈ F.map (·.1)) : ∃ v, getF F k = some v := by
  obtain ⟨t, m, e⟩ := List.mem_map.mp h
  unfold getF
  cases e2 : F.find? fun t => decide (t.1 = k) with
  | none =>
    have := List.find?_eq_none.mp e2 t m
    simp [e] at this
  | some u => exact ⟨_, rfl⟩
theorem mem_srtK {l : List (List Int)} {k : List Int} : k ∈ srtK l ↔ k ∈ l := List.mem_mergeSort
theorem sub_fD {F : Asc} {k : List Int} (h : k ∈ F.map (·.1)) : gSub1 [fD F, uT k] = some (.val (.int ((getF F k).getD 0))) := by
  obtain ⟨v, hv⟩ := getF_mem h
  exact gSub1_dict (oneKind_fD F k) (by rw [dget_fD, hv]; rfl)
theorem keys_fD (F : Asc) : (F.map em).map (·.1) = (F.map (·.1)).map uT := by
  rw [List.map_map, List.map_map]
  rfl
theorem sorted_fD {F : Asc} (h : ∀ k ∈ F.map (·.1), k ≠ []) : gSorted [fD F] = some (.own (.list ((srtK (F.map (·.1))).map uT))) := by
  have h1 : SortOk ((F.map em).map (·.1)) := by rw [keys_fD]; exact sortOk_uT h
  have := gSortedD_of h1
  rw [keys_fD, sort_uT] at this
  exact this
theorem filterMap_if {α β : Type} (c : α → Bool) (f : α → β) (l : List α) : (l.filterMap fun a => if c a then some (f a) else none) = (l.filter c).map f := by
  induction l with
  | nil => rfl
  | cons a l ih => cases h : c a <;> simp [h, ih]
theorem gathered_of {p : Int} {F : Asc} (hp : 0 ≤ p) (hk : ∀ k ∈ F.map (·.1), k ≠ []) (hl : Fits F.length) : ev_gathered [.val (.int p), .val (fD F)] = some (.val (pD (gath p F)), [.no, .no]) := by
  unfold ev_gathered bd_gathered
  have h2 : Fits 2 := show 2 ≤ 16777216 by decide
  have hlen : (srtK (F.map (·.1))).length = F.length := by
    have := List.length_mergeSort (le := fun a b => !lexI b a) (F.map (·.1))
    simpa [srtK] using this
  have hlen2 : (tms p F).length = F.length := by simp [tms, hlen]
  have hs := sorted_fD hk
  refine defE_rt (e := [.val (.int p), .val (fD F), .val (.list ((tms p F).map tmD)), .no, .no]) [.val (.int p), .val (fD F), .no, .no, .no] (by rfl)
    ((sSeq_nx (e := [.val (.int p), .val (fD F), .own (.list ((tms p F).map tmD)), .no, .no]) (sSet_of (e := [.val (.int p), .val (fD F), .no, .no, .no]) (vLc_same (out := (tms p F).map tmD) (ds := (srtK (F.map (·.1))).map uT) [.val (.int p), .val (fD F), .no, .no, .no] (iSeq_of (asO_of (evP_of (os := [.nam 1]) (e := [.val (.int p), .val (fD F), .no, .no, .no]) (ds := [fD F]) (by rfl) (by rfl) (by exact hs)) (by rfl)) (by rfl) (by rfl))
      ?_ ?_ (by rfl)) (by simp))).trans ?_) (by rfl)
  · unfold tms
    rw [List.map_map]
    refine lcF_allm (f := tmD ∘ fun k => (k, el p ((getF F k).getD 0))) fun k m => ?_
    have hg := sub_fD (mem_srtK.mp m)
    exact lcT_of (by rfl) (by rfl) (asO_of (vTup_of (consO_of (by rfl) (consO_of (asO_of (callF_of (consO_of (by rfl) (consO_of (asO_of (evP_of (by rfl) (by rfl) (by exact hg)) (by rfl)) (by rfl))) (by rfl) (by rfl) (by rfl) (by rfl) (by exact element_of hp) (by rfl)) (by rfl)) (by rfl))) (by rfl) (by exact h2)) (by rfl)) (by rfl) (by rfl)
  · simpa [hlen2] using hl
  · refine sRet_of (evP_of (consO_of (asO_of (vLc_same (out := (gath p F).map tmD) (ds := (tms p F).map tmD) [.val (.int p), .val (fD F), .val (.list ((tms p F).map tmD)), .no, .no] (by rfl) ?_ ?_ (by rfl)) (by rfl)) (by rfl)) (by rfl) (by rfl))
    · have e : (gath p F).map tmD = (tms p F).filterMap fun t => if (!decide (t.2 = 0)) then some (tmD t) else none := (filterMap_if _ _ _).symm
      rw [e]
      refine lcF_mapm fun t m => ?_
      have hc : (bV (ev2 gNe (asO (ev2 gSub1 (oN 4) (oC (.int 1)))) (oC (.int 0)))) [.val (.int p), .val (fD F), .val (.list ((tms p F).map tmD)), .no, .val (tmD t)] = some (!decide (t.2 = 0), [.val (.int p), .val (fD F), .val (.list ((tms p F).map tmD)), .no, .val (tmD t)]) :=
        bV_of (evP_of (consO_of (asO_of (evP_of (by rfl) (by rfl) (by rfl)) (by rfl)) (by rfl)) (by rfl) (by exact gNe_int))
      by_cases h0 : t.2 = 0
      · rw [decide_eq_true h0] at hc ⊢
        exact lcT_no (by rfl) hc (by rfl)
      · rw [decide_eq_false h0] at hc ⊢
        exact lcT_of (by rfl) hc (by rfl) (by rfl) (by rfl)
    · have h3 : (gath p F).length ≤ (tms p F).length := List.length_filter_le _ _
      have h4 : F.length ≤ 16777216 := hl
      rw [List.length_map]
      exact Nat.le_trans h3 (by omega)
theorem tidy_of {p : Int} {F : Asc} (hp : 0 ≤ p) (hk : ∀ k ∈ F.map (·.1), k ≠ []) (hl : Fits F.length) : ev_law_tidy [.val (.int p), .val (fD F)] = some (.val (pD (gath p F)), [.no, .no]) := by
  unfold ev_law_tidy bd_law_tidy
  have h2 : Fits 2 := show 2 ≤ 16777216 by decide
  have hlen : (srtK (F.map (·.1))).length = F.length := by
    have := List.length_mergeSort (le := fun a b => !lexI b a) (F.map (·.1))
    simpa [srtK] using this
  have hs := sorted_fD hk
  refine defE_rt (e := [.val (.int p), .val (fD F), .no]) [.val (.int p), .val (fD F), .no] (by rfl)
    (sRet_of (evP_of (consO_of (asO_of (vLc_same (out := (gath p F).map tmD) (ds := (srtK (F.map (·.1))).map uT) [.val (.int p), .val (fD F), .no] (iSeq_of (asO_of (evP_of (os := [.nam 1]) (e := [.val (.int p), .val (fD F), .no]) (ds := [fD F]) (by rfl) (by rfl) (by exact hs)) (by rfl)) (by rfl) (by rfl)) ?_ ?_ (by rfl)) (by rfl)) (by rfl)) (by rfl) (by rfl))) (by rfl)
  · have e : (gath p F).map tmD = (srtK (F.map (·.1))).filterMap fun k => if (!decide (el p ((getF F k).getD 0) = 0)) then some (tmD (k, el p ((getF F k).getD 0))) else none := by
      rw [filterMap_if (fun k => !decide (el p ((getF F k).getD 0) = 0))]
      unfold gath tms
      rw [List.filter_map, List.map_map]
      rfl
    rw [e]
    refine lcF_mapm fun k m => ?_
    have hg := sub_fD (mem_srtK.mp m)
    have hcall : ∀ E, E = [Slot.val (.int p), .val (fD F), .val (uT k)] → callF [false, false] ev_law_element (consO (oN 0) (consO (asO (ev2 gSub1 (oN 1) (oN 2))) (nilO))) E = some (.val (.int (el p ((getF F k).getD 0))), E) := fun E hE => by
      subst hE
      exact callF_of (consO_of (by rfl) (consO_of (asO_of (evP_of (by rfl) (by rfl) (by exact hg)) (by rfl)) (by rfl))) (by rfl) (by rfl) (by rfl) (by rfl) (by exact law_element_of hp) (by rfl)
    have hc : (bV (ev2 gNe (asO (callF [false, false] ev_law_element (consO (oN 0) (consO (asO (ev2 gSub1 (oN 1) (oN 2))) (nilO))))) (oC (.int 0)))) [.val (.int p), .val (fD F), .val (uT k)] = some (!decide (el p ((getF F k).getD 0) = 0), [.val (.int p), .val (fD F), .val (uT k)]) :=
      bV_of (evP_of (consO_of (asO_of (hcall _ rfl) (by rfl)) (by rfl)) (by rfl) (by exact gNe_int))
    by_cases h0 : el p ((getF F k).getD 0) = 0
    · rw [decide_eq_true h0] at hc ⊢
      exact lcT_no (by rfl) hc (by rfl)
    · rw [decide_eq_false h0] at hc ⊢
      exact lcT_of (by rfl) hc (asO_of (vTup_of (consO_of (by rfl) (consO_of (asO_of (hcall _ rfl) (by rfl)) (by rfl))) (by rfl) (by exact h2)) (by rfl)) (by rfl) (by rfl)
  · have h3 : (gath p F).length ≤ (tms p F).length := List.length_filter_le _ _
    have h4 : F.length ≤ 16777216 := hl
    have h5 : (tms p F).length = F.length := by simp [tms, hlen]
    rw [List.length_map]
    exact Nat.le_trans h3 (by omega)
/-! ### factor_of -/
def facOf (P : Asc) (k : List Int) : Int := (getF P k).getD 0
theorem factor_of_of (P : Asc) (k : List Int) : ev_factor_of [.val (pD P), .val (uT k)] = some (.val (.int (facOf P k)), [.no, .no]) := by
  unfold ev_factor_of bd_factor_of
  have loop : ∀ (Q : Asc) (j1 j2 : Slot), (∃ x y, forL (gT 2 (gConss (gN 2) (gConss (gN 3) (gNils)))) (sIf (bV (ev2 gEq (oN 2) (oN 1))) (sRet (vMv 3)) (sNext)) (Q.map tmD) [.val (pD P), .val (uT k), j1, j2] = some (.nx [.val (pD P), .val (uT k), x, y]) ∧ getF Q k = none) ∨
      ∃ v x y, forL (gT 2 (gConss (gN 2) (gConss (gN 3) (gNils)))) (sIf (bV (ev2 gEq (oN 2) (oN 1))) (sRet (vMv 3)) (sNext)) (Q.map tmD) [.val (pD P), .val (uT k), j1, j2] = some (.rt (.val (.int v)) [.val (pD P), .val (uT k), x, y]) ∧ getF Q k = some v := by
    intro Q
    induction Q with
    | nil => intro j1 j2; exact .inl ⟨j1, j2, rfl, rfl⟩
    | cons t Q ih =>
      intro j1 j2
      have hg : gT 2 (gConss (gN 2) (gConss (gN 3) (gNils))) (tmD t) [.val (pD P), .val (uT k), j1, j2] = some [.val (pD P), .val (uT k), .val (uT t.1), .val (.int t.2)] := rfl
      have hc : (bV (ev2 gEq (oN 2) (oN 1))) [.val (pD P), .val (uT k), .val (uT t.1), .val (.int t.2)] = some (decide (t.1 = k), [.val (pD P), .val (uT k), .val (uT t.1), .val (.int t.2)]) :=
        bV_of (evP_of (by rfl) (by rfl) (by rw [← eqv_tI]; exact gEq_of (sh_tI _) (sh_tI _)))
      by_cases h : t.1 = k
      · rw [decide_eq_true h] at hc
        refine .inr ⟨t.2, .val (uT t.1), .no, ?_, by simp [getF, h]⟩
        exact forL_rt hg ((sIf_t hc).trans (by rfl : sRet (vMv 3) _ = some (.rt (.val (.int t.2)) [.val (pD P), .val (uT k), .val (uT t.1), .no])))
      · rw [decide_eq_false h] at hc
        have step : forL (gT 2 (gConss (gN 2) (gConss (gN 3) (gNils)))) (sIf (bV (ev2 gEq (oN 2) (oN 1))) (sRet (vMv 3)) (sNext)) ((t :: Q).map tmD) [.val (pD P), .val (uT k), j1, j2] = forL (gT 2 (gConss (gN 2) (gConss (gN 3) (gNils)))) (sIf (bV (ev2 gEq (oN 2) (oN 1))) (sRet (vMv 3)) (sNext)) (Q.map tmD) [.val (pD P), .val (uT k), .val (uT t.1), .val (.int t.2)] := by
          exact forL_nx hg ((sIf_f hc).trans (by rfl : sNext _ = some (.nx [.val (pD P), .val (uT k), .val (uT t.1), .val (.int t.2)])))
        have eg : getF (t :: Q) k = getF Q k := by simp [getF, h]
        rw [step, eg]
        exact ih _ _
  rcases loop P .no .no with ⟨x, y, h1, h2⟩ | ⟨v, x, y, h1, h2⟩
  · have e : facOf P k = 0 := by simp [facOf, h2]
    rw [e]
    exact defE_rt [.val (pD P), .val (uT k), .no, .no] (by rfl) ((sSeq_nx ((sFor_of (by rfl)).trans h1)).trans (by rfl)) (by rfl)
  · have e : facOf P k = v := by simp [facOf, h2]
    rw [e]
    exact defE_rt [.val (pD P), .val (uT k), .no, .no] (by rfl) (sSeq_rt ((sFor_of (by rfl)).trans h1)) (by rfl)
end Pf
/-! PlE: times. -/
namespace Pf
open PySem PySem.Spec
abbrev addP (a b : List Int) : List Int := a.zipWith (· + ·) b
def mulF (P Q : Asc) : Asc := P.foldl (fun F t => Q.foldl (fun F u => addF F (addP t.1 u.1) (t.2 * u.2)) F) []
theorem zip_ints (a b : List Int) : zipD (a.map .int) (b.map .int) = (a.zip b).map fun q => .tuple [.int q.1, .int q.2] := by
  induction a generalizing b with
  | nil => rfl
  | cons x a ih => cases b with
    | nil => rfl
    | cons y b =>
      have := ih b
      unfold zipD at this ⊢
      simp only [List.map_cons, List.zipWith_cons_cons, List.zip_cons_cons, this]
theorem add_zip (a b : List Int) : (a.zip b).map (fun q => PyData.int (q.1 + q.2)) = (addP a b).map .int := by
  unfold addP
  induction a generalizing b with
  | nil => rfl
  | cons x a ih => cases b with
    | nil => rfl
    | cons y b => simp [ih]
theorem gAdd_int (a b : Int) : gAdd [.int a, .int b] = some (.val (.int (a + b))) := rfl
section
variable {p : Int} {P Q F : Asc} {t u : List Int × Int} {x6 x7 x8 : Slot}
abbrev tE (p : Int) (P Q F : Asc) (t : List Int × Int) (x6 x7 x8 : Slot) : Env1 := [.val (.int p), .val (pD P), .val (pD Q), .own (fD F), .val (uT t.1), .val (.int t.2), x6, x7, x8, .no, .no]
noncomputable abbrev tBody : EvS := sSeq (sSet 8 (evP gTuple (consO (asO (vLc (iZip2 (oN 4) (oN 6)) (gT 2 (gConss (gN 9) (gConss (gN 10) (gNils)))) (bTrue) (asO (ev2 gAdd (oN 9) (oN 10))) [9, 10])) (nilO)))) (sPut 3 (oN 8) (asO (ev2 gAdd (asO (vGet 3 (oN 8) (oC (.int 0)))) (asO (ev2 gMul (oN 5) (oN 7))))))
theorem t_step (hl : Fits t.1.length) (hm : L2.CMulW t.2 u.2) (hF : Fits (F.length + 1)) :
    tBody (tE p P Q F t (.val (uT u.1)) (.val (.int u.2)) x8) = some (.nx (tE p P Q (addF F (addP t.1 u.1) (t.2 * u.2)) t (.val (uT u.1)) (.val (.int u.2)) (.val (uT (addP t.1 u.1))))) := by
  have hlz : (addP t.1 u.1).length ≤ t.1.length := by simp [addP]; omega
  have hlf : Fits ((addP t.1 u.1).map PyData.int).length := by rw [List.length_map]; exact Nat.le_trans hlz hl
  refine (sSeq_nx (e := tE p P Q F t (.val (uT u.1)) (.val (.int u.2)) (.val (uT (addP t.1 u.1)))) (sSet_of (e := tE p P Q F t (.val (uT u.1)) (.val (.int u.2)) x8) (evP_of (consO_of (asO_of (vLc_same (out := (addP t.1 u.1).map .int) (ds := (t.1.zip u.1).map fun q => .tuple [.int q.1, .int q.2]) (tE p P Q F t (.val (uT u.1)) (.val (.int u.2)) x8) ?_ ?_ hlf (by rfl)) (by rfl)) (by rfl)) (by rfl) (by rfl)) (by simp))).trans ?_
  · rw [← zip_ints]
    rfl
  · rw [← add_zip]
    exact lcF_allm (α := Int × Int) (u := fun q => .tuple [.int q.1, .int q.2]) (f := fun q => .int (q.1 + q.2)) fun q _ => lcT_of (by rfl) (by rfl) (asO_of (evP_of (by rfl) (by rfl) (by rfl)) (by rfl)) (by rfl) (by rfl)
  · have hk := oneKind_fD F (addP t.1 u.1)
    have hg : gGet [fD F, uT (addP t.1 u.1), .int 0] = some (.val (.int ((getF F (addP t.1 u.1)).getD 0))) := by
      refine (gGet_of hk rfl).trans ?_
      rw [dget_fD]
      cases getF F (addP t.1 u.1) <;> rfl
    have hp : putD (fD F) (uT (addP t.1 u.1)) (.int ((getF F (addP t.1 u.1)).getD 0 + t.2 * u.2)) = some (fD (addF F (addP t.1 u.1) (t.2 * u.2))) := by
      refine (putD_dict hk (by rw [List.length_map]; exact hF)).trans ?_
      rw [dput_fD]
      rfl
    exact sPut_of (i := 3) (e3 := tE p P Q F t (.val (uT u.1)) (.val (.int u.2)) (.val (uT (addP t.1 u.1)))) (d' := fD (addF F (addP t.1 u.1) (t.2 * u.2))) (asO_of (evP_of (consO_of (asO_of (vGet_of (by rfl) (by rfl) (by rfl) (by rfl) (by exact hg)) (by rfl)) (consO_of (asO_of (evP_of (by rfl) (by rfl) (by exact gMul_of hm)) (by rfl)) (by rfl))) (by rfl) (by rfl)) (by rfl)) (by rfl) (by rfl) (by rfl) (by rfl) (by exact hp) (by rfl)
theorem len_addF (F : Asc) (k : List Int) (c : Int) : (addF F k c).length ≤ F.length + 1 := len_putF F k _
theorem times_of (hp : 0 ≤ p) (hk : ∀ k ∈ (mulF P Q).map (·.1), k ≠ []) (hl : ∀ t ∈ P, Fits t.1.length) (hm : ∀ t ∈ P, ∀ u ∈ Q, L2.CMulW t.2 u.2) (hP : P.length ≤ 1000) (hQ : Q.length ≤ 1000) :
    ev_times [.val (.int p), .val (pD P), .val (pD Q)] = some (.val (pD (gath p (mulF P Q))), [.no, .no, .no]) := by
  unfold ev_times bd_times
  -- the loops
  have inner : ∀ (t : List Int × Int) (F : Asc) (j : Slot × Slot × Slot), t ∈ P → F.length + Q.length ≤ 2000000 → ∃ j' : Slot × Slot × Slot, forL (gT 2 (gConss (gN 6) (gConss (gN 7) (gNils)))) tBody (Q.map tmD) (tE p P Q F t j.1 j.2.1 j.2.2) =
      some (.nx (tE p P Q (Q.foldl (fun F u => addF F (addP t.1 u.1) (t.2 * u.2)) F) t j'.1 j'.2.1 j'.2.2)) ∧ (Q.foldl (fun F u => addF F (addP t.1 u.1) (t.2 * u.2)) F).length ≤ F.length + Q.length := fun t F j mt hF => by
    obtain ⟨j', h1, h2⟩ := forL_fold (S := Asc) (J := Slot × Slot × Slot) (g := gT 2 (gConss (gN 6) (gConss (gN 7) (gNils)))) (r := tBody) (u := tmD) (W := fun F j => tE p P Q F t j.1 j.2.1 j.2.2) (step := fun F u => addF F (addP t.1 u.1) (t.2 * u.2)) (P := fun rest F' => F'.length + rest.length ≤ F.length + Q.length)
      (l := Q) (s := F) (j := j) (Nat.le_refl _) fun u rest F' j mu hF' => by
        refine ⟨tE p P Q F' t (.val (uT u.1)) (.val (.int u.2)) j.2.2, (.val (uT u.1), .val (.int u.2), .val (uT (addP t.1 u.1))), by rfl, t_step (hl t mt) (hm t mt u mu) ?_, ?_⟩
        · simp at hF'
          show F'.length + 1 ≤ 16777216
          omega
        · have := len_addF F' (addP t.1 u.1) (t.2 * u.2)
          simp at hF'
          omega
    exact ⟨j', h1, by simpa using h2⟩
  have outer : ∃ j' : Slot × Slot × Slot × Slot × Slot, forL (gT 2 (gConss (gN 4) (gConss (gN 5) (gNils)))) (sFor (iSeq (oN 2)) (gT 2 (gConss (gN 6) (gConss (gN 7) (gNils)))) tBody) (P.map tmD) [.val (.int p), .val (pD P), .val (pD Q), .own (fD []), .no, .no, .no, .no, .no, .no, .no] =
      some (.nx [.val (.int p), .val (pD P), .val (pD Q), .own (fD (mulF P Q)), j'.1, j'.2.1, j'.2.2.1, j'.2.2.2.1, j'.2.2.2.2, .no, .no]) ∧ (mulF P Q).length ≤ P.length * Q.length := by
    obtain ⟨j', h1, h2⟩ := forL_fold (S := Asc) (J := Slot × Slot × Slot × Slot × Slot) (g := gT 2 (gConss (gN 4) (gConss (gN 5) (gNils)))) (r := sFor (iSeq (oN 2)) (gT 2 (gConss (gN 6) (gConss (gN 7) (gNils)))) tBody) (u := tmD) (W := fun F j => [.val (.int p), .val (pD P), .val (pD Q), .own (fD F), j.1, j.2.1, j.2.2.1, j.2.2.2.1, j.2.2.2.2, .no, .no])
      (step := fun F t => Q.foldl (fun F u => addF F (addP t.1 u.1) (t.2 * u.2)) F) (P := fun rest F' => F'.length + rest.length * Q.length ≤ P.length * Q.length) (l := P) (s := []) (j := (.no, .no, .no, .no, .no)) (by simp) fun t rest F' j mt hF' => by
        have hb : P.length * Q.length ≤ 1000000 := Nat.mul_le_mul hP hQ
        have hF'' : F'.length + (rest.length * Q.length + Q.length) ≤ P.length * Q.length := by simpa [Nat.succ_mul, Nat.add_mul] using hF'
        obtain ⟨j', g1, g2⟩ := inner t F' (j.2.2.1, j.2.2.2.1, j.2.2.2.2) mt (by omega)
        refine ⟨tE p P Q F' t j.2.2.1 j.2.2.2.1 j.2.2.2.2, (.val (uT t.1), .val (.int t.2), j'.1, j'.2.1, j'.2.2), by rfl, (sFor_of (ds := Q.map tmD) (by rfl)).trans g1, ?_⟩
        show _ + _ ≤ _
        omega
    exact ⟨j', h1, by simpa [mulF] using h2⟩
  obtain ⟨j', h1, h2⟩ := outer
  have hlen : Fits (mulF P Q).length := by
    have hb : P.length * Q.length ≤ 1000000 := Nat.mul_le_mul hP hQ
    show _ ≤ 16777216
    omega
  exact defE_rt (e := [.val (.int p), .val (pD P), .val (pD Q), .val (fD (mulF P Q)), j'.1, j'.2.1, j'.2.2.1, j'.2.2.2.1, j'.2.2.2.2, .no, .no]) [.val (.int p), .val (pD P), .val (pD Q), .no, .no, .no, .no, .no, .no, .no, .no] (by rfl)
    ((sSeq_nx (e := [.val (.int p), .val (pD P), .val (pD Q), .own (fD []), .no, .no, .no, .no, .no, .no, .no]) (by rfl)).trans ((sSeq_nx ((sFor_of (ds := P.map tmD) (by rfl)).trans h1)).trans
      (sRet_of (callF_of (by rfl) (by rfl) (by rfl) (by rfl) (by rfl) (by exact gathered_of hp hk hlen) (by rfl))))) (by rfl)
end
end Pf
/-! PlF: the law's own helpers without draws. -/
namespace Pf
open PySem PySem.Spec
/-! ### its is_ahead -/
def keyL (l : List Nat) (a : List Int) : List Int := l.map fun o => a.getD o 0
theorem rk_key (os : List Nat) (a : List Int) : rk os a = keyL os.reverse a := rfl
theorem nI_rev (os : List Nat) : ((nI os).map PyData.int).reverse = os.reverse.map fun o => .int (Int.ofNat o) := by simp [nI]
theorem sub_uT {a : List Int} {o : Nat} (h : o < a.length) : gSub1 [uT a, .int (Int.ofNat o)] = some (.val (.int (a.getD o 0))) := by
  show (L2.atI _ _).map Slot.val = _
  have := atI_at h
  rw [show (Int.ofNat o) = (o : Int) from rfl, this]
  rfl
theorem law_is_ahead_of {os : List Nat} {a b : List Int} (ha : ∀ o ∈ os, o < a.length) (hb : ∀ o ∈ os, o < b.length) :
    ev_law_is_ahead [.val (uT (nI os)), .val (uT a), .val (uT b)] = some (.val (.bool (lexI (rk os a) (rk os b))), [.no, .no, .no]) := by
  unfold ev_law_is_ahead bd_law_is_ahead
  have loop : ∀ (l : List Nat) (j : Slot), (∀ o ∈ l, o < a.length) → (∀ o ∈ l, o < b.length) →
      (∃ x, forL (gN 3) (sIf (bV (ev2 gNe (asO (ev2 gSub1 (oN 1) (oN 3))) (asO (ev2 gSub1 (oN 2) (oN 3))))) (sRet (ev2 gLt (asO (ev2 gSub1 (oN 1) (oN 3))) (asO (ev2 gSub1 (oN 2) (oN 3))))) (sNext)) (l.map fun o => .int (Int.ofNat o)) [.val (uT (nI os)), .val (uT a), .val (uT b), j] = some (.nx [.val (uT (nI os)), .val (uT a), .val (uT b), x]) ∧ lexI (keyL l a) (keyL l b) = false) ∨
      ∃ x, forL (gN 3) (sIf (bV (ev2 gNe (asO (ev2 gSub1 (oN 1) (oN 3))) (asO (ev2 gSub1 (oN 2) (oN 3))))) (sRet (ev2 gLt (asO (ev2 gSub1 (oN 1) (oN 3))) (asO (ev2 gSub1 (oN 2) (oN 3))))) (sNext)) (l.map fun o => .int (Int.ofNat o)) [.val (uT (nI os)), .val (uT a), .val (uT b), j] = some (.rt (.val (.bool (lexI (keyL l a) (keyL l b)))) [.val (uT (nI os)), .val (uT a), .val (uT b), x]) := by
    intro l
    induction l with
    | nil => intro j _ _; exact .inl ⟨j, rfl, rfl⟩
    | cons o l ih =>
      intro j h1 h2
      have ga := sub_uT (h1 o List.mem_cons_self)
      have gb := sub_uT (h2 o List.mem_cons_self)
      have hg : gN 3 (.int (Int.ofNat o)) [.val (uT (nI os)), .val (uT a), .val (uT b), j] = some [.val (uT (nI os)), .val (uT a), .val (uT b), .val (.int (Int.ofNat o))] := rfl
      have ea : asO (ev2 gSub1 (oN 1) (oN 3)) [.val (uT (nI os)), .val (uT a), .val (uT b), .val (.int (Int.ofNat o))] = some (.dat (.int (a.getD o 0)), [.val (uT (nI os)), .val (uT a), .val (uT b), .val (.int (Int.ofNat o))]) := asO_of (evP_of (by rfl) (by rfl) (by exact ga)) (by rfl)
      have eb : asO (ev2 gSub1 (oN 2) (oN 3)) [.val (uT (nI os)), .val (uT a), .val (uT b), .val (.int (Int.ofNat o))] = some (.dat (.int (b.getD o 0)), [.val (uT (nI os)), .val (uT a), .val (uT b), .val (.int (Int.ofNat o))]) := asO_of (evP_of (by rfl) (by rfl) (by exact gb)) (by rfl)
      have hc := bV_of (evP_of (consO_of ea (consO_of eb (by rfl : nilO _ = _))) (by rfl) (gNe_int (a := a.getD o 0) (b := b.getD o 0)))
      by_cases h : a.getD o 0 = b.getD o 0
      · rw [decide_eq_true h] at hc
        have e : lexI (keyL (o :: l) a) (keyL (o :: l) b) = lexI (keyL l a) (keyL l b) := by
          show (if a.getD o 0 = b.getD o 0 then _ else _) = _
          rw [if_pos h]
          rfl
        rw [e, List.map_cons, forL_nx hg ((sIf_f hc).trans (by rfl : sNext _ = some (.nx _)))]
        exact ih _ (fun o m => h1 o (List.mem_cons_of_mem _ m)) fun o m => h2 o (List.mem_cons_of_mem _ m)
      · rw [decide_eq_false h] at hc
        have e : lexI (keyL (o :: l) a) (keyL (o :: l) b) = decide (a.getD o 0 < b.getD o 0) := by
          show (if a.getD o 0 = b.getD o 0 then _ else _) = _
          rw [if_neg h]
        rw [e, List.map_cons]
        exact .inr ⟨_, forL_rt hg ((sIf_t hc).trans (sRet_of (evP_of (consO_of ea (consO_of eb (by rfl : nilO _ = _))) (by rfl) gLt_int)))⟩
  have hl1 : ∀ o ∈ os.reverse, o < a.length := fun o m => ha o (List.mem_reverse.mp m)
  have hl2 : ∀ o ∈ os.reverse, o < b.length := fun o m => hb o (List.mem_reverse.mp m)
  have hI : iSeq (asO (vRev (oN 0))) [.val (uT (nI os)), .val (uT a), .val (uT b), .no] = some (os.reverse.map fun o => .int (Int.ofNat o), [.val (uT (nI os)), .val (uT a), .val (uT b), .no]) := by
    rw [← nI_rev]
    rfl
  rcases loop os.reverse .no hl1 hl2 with ⟨x, h1, h2⟩ | ⟨x, h1⟩
  · have e : lexI (rk os a) (rk os b) = false := h2
    rw [e]
    exact defE_rt [.val (uT (nI os)), .val (uT a), .val (uT b), .no] (by rfl) ((sSeq_nx ((sFor_of hI).trans h1)).trans (by rfl)) (by rfl)
  · exact defE_rt [.val (uT (nI os)), .val (uT a), .val (uT b), .no] (by rfl) (sSeq_rt ((sFor_of hI).trans h1)) (by rfl)
/-! ### sums of powers -/
theorem plus_of {a b : List Int} (h : a.length = b.length) (hf : a.length ≤ 16777216) : ev_law_plus_powers [.val (uT a), .val (uT b)] = some (.val (uT (addP a b)), [.no, .no]) := by
  unfold ev_law_plus_powers bd_law_plus_powers
  have e : (addP a b).map PyData.int = (List.range a.length).map fun i => .int (a.getD i 0 + b.getD i 0) := by
    refine List.ext_getElem (by simp [addP]; omega) fun i h1 h2 => ?_
    simp [addP] at h1
    simp only [List.getElem_map, addP, List.getElem_zipWith, List.getElem_range]
    rw [List.getD_eq_getElem?_getD, List.getD_eq_getElem?_getD, List.getElem?_eq_getElem (by omega), List.getElem?_eq_getElem (by omega)]
    rfl
  have er : rngD 0 (Int.ofNat a.length).toNat = (List.range a.length).map fun i => .int (Int.ofNat i) := by
    unfold rngD
    simp
  have hs : Small (Int.ofNat a.length) := by
    rw [show (Int.ofNat a.length) = (a.length : Int) from rfl]
    constructor <;> omega
  have hI : Pf.iRng1 (asO (evP gLen (consO (oN 0) (nilO)))) [.val (uT a), .val (uT b), .no] = some ((List.range a.length).map fun i => .int (Int.ofNat i), [.val (uT a), .val (uT b), .no]) := by
    rw [← er]
    refine iRng1_of (asO_of (evP_of (by rfl) (by rfl) (?_ : gLen [uT a] = some (.val (.int (Int.ofNat a.length))))) (by rfl)) (by rfl) hs
    simp [gLen, uT]
  have et : uT (addP a b) = .tuple ((List.range a.length).map fun i => .int (a.getD i 0 + b.getD i 0)) := by rw [← e]; rfl
  rw [et]
  refine defE_rt [.val (uT a), .val (uT b), .no] (by rfl) (sRet_of (evP_of (consO_of (asO_of (vLc_same [.val (uT a), .val (uT b), .no] hI (lcF_allm (f := fun i => .int (a.getD i 0 + b.getD i 0)) fun i m => ?_) ?_ (by rfl)) (by rfl)) (by rfl)) (by rfl) (by rfl))) (by rfl)
  · have hi : i < a.length := by simpa using m
    have ga := sub_uT hi
    have gb := sub_uT (a := b) (o := i) (by omega)
    exact lcT_of (by rfl) (by rfl) (asO_of (evP_of (consO_of (asO_of (evP_of (by rfl) (by rfl) (by exact ga)) (by rfl)) (consO_of (asO_of (evP_of (by rfl) (by rfl) (by exact gb)) (by rfl)) (by rfl))) (by rfl) (by rfl)) (by rfl)) (by rfl) (by rfl)
  · simp
    exact hf
/-! ### the greatest powers -/
def best (os : List Nat) : List (List Int) → Option (List Int) := List.foldl (fun f a => match f with
  | none => some a
  | some b => if lexI (rk os b) (rk os a) then some a else some b) none
def oD : Option (List Int) → PyData
  | none => .none
  | some a => uT a
theorem due_head_of {os : List Nat} {P : Asc} (h : ∀ t ∈ P, ∀ o ∈ os, o < t.1.length) : ev_law_due_head [.val (pD P), .val (uT (nI os))] = some (.val (oD (best os (P.map (·.1)))), [.no, .no]) := by
  unfold ev_law_due_head bd_law_due_head
  have main := forL_fold (S := Option (List Int)) (J := Slot × Slot) (α := List Int × Int) (g := gT 2 (gConss (gN 3) (gConss (gN 4) (gNils)))) (r := sIf (bOr (bV (ev2 gIs (oN 2) (oC .none))) (bV (callF [false, false, false] ev_law_is_ahead (consO (oN 1) (consO (oN 2) (consO (oN 3) (nilO))))))) (sSet 2 (vO (oN 3))) (sNext))
    (u := tmD) (W := fun f j => [.val (pD P), .val (uT (nI os)), .val (oD f), j.1, j.2]) (step := fun f t => match f with
      | none => some t.1
      | some b => if lexI (rk os b) (rk os t.1) then some t.1 else some b) (P := fun _ f => ∀ b, f = some b → ∀ o ∈ os, o < b.length) (l := P) (s := none) (j := (.no, .no)) (by simp) fun t rest f j mt hf => by
    refine ⟨[.val (pD P), .val (uT (nI os)), .val (oD f), .val (uT t.1), .val (.int t.2)], (.val (uT t.1), .val (.int t.2)), by rfl, ?_, ?_⟩
    · cases f with
      | none =>
        have hc : (bV (ev2 gIs (oN 2) (oC .none))) [.val (pD P), .val (uT (nI os)), .val .none, .val (uT t.1), .val (.int t.2)] = some (true, [.val (pD P), .val (uT (nI os)), .val .none, .val (uT t.1), .val (.int t.2)]) := bV_of (evP_of (by rfl) (by rfl) (by rfl))
        exact (sIf_t (bOr_t hc)).trans (by rfl)
      | some b =>
        have hc : (bV (ev2 gIs (oN 2) (oC .none))) [.val (pD P), .val (uT (nI os)), .val (uT b), .val (uT t.1), .val (.int t.2)] = some (false, [.val (pD P), .val (uT (nI os)), .val (uT b), .val (uT t.1), .val (.int t.2)]) := bV_of (evP_of (by rfl) (by rfl) (by rfl))
        have ha := law_is_ahead_of (os := os) (a := b) (b := t.1) (hf b rfl) (h t mt)
        have hc2 : (bV (callF [false, false, false] ev_law_is_ahead (consO (oN 1) (consO (oN 2) (consO (oN 3) (nilO)))))) [.val (pD P), .val (uT (nI os)), .val (uT b), .val (uT t.1), .val (.int t.2)] = some (lexI (rk os b) (rk os t.1), [.val (pD P), .val (uT (nI os)), .val (uT b), .val (uT t.1), .val (.int t.2)]) :=
          bV_of (callF_of (by rfl) (by rfl) (by rfl) (by rfl) (by rfl) (by exact ha) (by rfl))
        cases hl : lexI (rk os b) (rk os t.1) with
        | true =>
          rw [hl] at hc2
          exact (sIf_t ((bOr_f hc).trans hc2)).trans (by simp only [hl]; rfl)
        | false =>
          rw [hl] at hc2
          exact (sIf_f ((bOr_f hc).trans hc2)).trans (by simp only [hl]; rfl)
    · intro b e
      cases f with
      | none => cases e; exact h t mt
      | some b0 =>
        simp only at e
        split at e
        · cases e; exact h t mt
        · cases e; exact hf _ rfl
  obtain ⟨j', h1, _⟩ := main
  have hb : best os (P.map (·.1)) = P.foldl (fun f t => match f with
      | none => some t.1
      | some b => if lexI (rk os b) (rk os t.1) then some t.1 else some b) none := by
    unfold best
    rw [List.foldl_map]
  rw [hb]
  exact defE_rt [.val (pD P), .val (uT (nI os)), .no, .no, .no] (by rfl) ((sSeq_nx (e := [.val (pD P), .val (uT (nI os)), .val .none, .no, .no]) (by rfl)).trans ((sSeq_nx ((sFor_of (ds := P.map tmD) (by rfl)).trans h1)).trans (by rfl))) (by rfl)
end Pf
/-! PlG: its same, and is_order. -/
namespace Pf
open PySem PySem.Spec
def SameOk (k : Nat) (d : PyData) : Prop := ev_law_same k [.val d, .val d] = some (.val (.bool true), [.no, .no])
theorem same_bool (k : Nat) (b : Bool) : SameOk (k + 1) (.bool b) := by
  have he : gEq [.bool b, .bool b] = some (.val (.bool true)) := (gEq_of (sh_bool b) (sh_bool b)).trans (by simp [PyData.eqv])
  exact defE_rt [.val (.bool b), .val (.bool b), .no] (by rfl) (sSeq_rt ((sIf_t (bOr_t (bV_of (evP_of (by rfl) (by rfl) (by rfl))))).trans (sRet_of (vB_of ((bAnd_t (bV_of (evP_of (by rfl) (by rfl) (by rfl)))).trans (bV_of (vB_of ((bAnd_t (bV_of (evP_of (by rfl) (by rfl) (by rfl)))).trans (bV_of (evP_of (by rfl) (by rfl) (by exact he)))))))))) ) (by rfl)
theorem same_int (k : Nat) (i : Int) : SameOk (k + 1) (.int i) := by
  have he : gEq [.int i, .int i] = some (.val (.bool true)) := gEq_int.trans (by simp)
  refine defE_rt (e := [.val (.int i), .val (.int i), .no]) [.val (.int i), .val (.int i), .no] (by rfl) ?_ (by rfl)
  refine (sSeq_nx (e := [.val (.int i), .val (.int i), .no]) ((sIf_f (e := [.val (.int i), .val (.int i), .no]) ((bOr_f (e := [.val (.int i), .val (.int i), .no]) (bV_of (evP_of (by rfl) (by rfl) (by rfl)))).trans (bV_of (evP_of (by rfl) (by rfl) (by rfl))))).trans (by rfl))).trans ?_
  exact sSeq_rt ((sIf_t (e := [.val (.int i), .val (.int i), .no]) (bV_of (evP_of (by rfl) (by rfl) (by rfl)))).trans (sRet_of (vB_of ((bAnd_t (e := [.val (.int i), .val (.int i), .no]) (bV_of (evP_of (by rfl) (by rfl) (by rfl)))).trans (bV_of (evP_of (by rfl) (by rfl) (by exact he)))))))
theorem same_non (k : Nat) : SameOk (k + 1) .none := by
  refine defE_rt (e := [.val .none, .val .none, .no]) [.val .none, .val .none, .no] (by rfl) ?_ (by rfl)
  rfl
theorem all_true (n : Nat) : gAll [.list ((List.range n).map fun _ => PyData.bool true)] = some (.val (.bool true)) := by
  have h : ∀ l : List Nat, boolsOf (l.map fun _ => PyData.bool true) = some (l.map fun _ => true) := fun l => by
    induction l with
    | nil => rfl
    | cons x l ih => simp [boolsOf, ih]
  show (boolsOf _).map _ = _
  rw [h]
  simp
theorem rng_nat (n : Nat) : rngD 0 (Int.ofNat n).toNat = (List.range n).map fun i => .int (Int.ofNat i) := by
  unfold rngD
  simp
theorem small_nat {n : Nat} (h : n ≤ 16777216) : Small (Int.ofNat n) := by
  rw [show (Int.ofNat n) = (n : Int) from rfl]
  constructor <;> omega
theorem sub_tup {l : List PyData} {i : Nat} (h : i < l.length) : gSub1 [.tuple l, .int (Int.ofNat i)] = some (.val l[i]) := by
  show (L2.atI _ _).map Slot.val = _
  have : L2.atI l (i : Int) = some l[i] := L2.atI_nat (List.getElem?_eq_getElem h)
  rw [show (Int.ofNat i) = (i : Int) from rfl, this]
  rfl
theorem same_tup {k : Nat} {l : List PyData} (h : ∀ d ∈ l, SameOk k d) (hl : l.length ≤ 16777216) : SameOk (k + 1) (.tuple l) := by
  have hlen : gLen [.tuple l] = some (.val (.int (Int.ofNat l.length))) := rfl
  have hne : gNe [.int (Int.ofNat l.length), .int (Int.ofNat l.length)] = some (.val (.bool false)) := gNe_int.trans (by simp)
  refine defE_rt (e := [.val (.tuple l), .val (.tuple l), .no]) [.val (.tuple l), .val (.tuple l), .no] (by rfl) ?_ (by rfl)
  refine (sSeq_nx (e := [.val (.tuple l), .val (.tuple l), .no]) (by rfl)).trans ((sSeq_nx (e := [.val (.tuple l), .val (.tuple l), .no]) (by rfl)).trans ((sSeq_nx (e := [.val (.tuple l), .val (.tuple l), .no]) (by rfl)).trans ?_))
  refine sSeq_rt ((sIf_t (e := [.val (.tuple l), .val (.tuple l), .no]) (bV_of (evP_of (by rfl) (by rfl) (by rfl)))).trans ?_)
  refine (sSeq_nx (e := [.val (.tuple l), .val (.tuple l), .no]) ((sIf_f (e := [.val (.tuple l), .val (.tuple l), .no]) ((bOr_f (e := [.val (.tuple l), .val (.tuple l), .no]) (by rfl)).trans (bV_of (evP_of (consO_of (asO_of (evP_of (by rfl) (by rfl) (by exact hlen)) (by rfl)) (consO_of (asO_of (evP_of (by rfl) (by rfl) (by exact hlen)) (by rfl)) (by rfl))) (by rfl) (by exact hne))))).trans (by rfl))).trans ?_
  have hI : Pf.iRng1 (asO (evP gLen (consO (oN 1) (nilO)))) [.val (.tuple l), .val (.tuple l), .no] = some ((List.range l.length).map fun i => .int (Int.ofNat i), [.val (.tuple l), .val (.tuple l), .no]) := by
    rw [← rng_nat]
    exact iRng1_of (asO_of (evP_of (by rfl) (by rfl) (by exact hlen)) (by rfl)) (by rfl) (small_nat hl)
  refine sRet_of (evP_of (consO_of (asO_of (vLc_same [.val (.tuple l), .val (.tuple l), .no] hI (lcF_allm (f := fun _ => .bool true) fun i m => ?_) ?_ (by rfl)) (by rfl)) (by rfl)) (by rfl) (by exact all_true _))
  · have hi : i < l.length := by simpa using m
    have g := sub_tup hi
    have hs : ev_law_same k [.val l[i], .val l[i]] = some (.val (.bool true), [.no, .no]) := h _ (List.getElem_mem hi)
    exact lcT_of (by rfl) (by rfl) (asO_of (callF_of (consO_of (asO_of (evP_of (by rfl) (by rfl) (by exact g)) (by rfl)) (consO_of (asO_of (evP_of (by rfl) (by rfl) (by exact g)) (by rfl)) (by rfl))) (by rfl) (by rfl) (by rfl) (by rfl) (by exact hs) (by rfl)) (by rfl)) (by rfl) (by rfl)
  · simp
    exact hl
theorem same_uT (k : Nat) {a : List Int} (h : a.length ≤ 16777216) : SameOk (k + 2) (uT a) := same_tup (fun d m => by
  obtain ⟨i, _, rfl⟩ := List.mem_map.mp m
  exact same_int k i) (by simpa using h)
/-! ### is_order -/
def isIx (n : Int) : PyData → Bool
  | .int i => decide (0 ≤ i) && decide (i < n)
  | _ => false
theorem is_integer_of {d : PyData} (h : ∀ kvs, d ≠ .dict kvs) : ev_is_integer [.val d] = some (.val (.bool (isiD d .int && !isiD d .bool)), [.no]) := by
  cases d with
  | dict kvs => exact absurd rfl (h kvs)
  | none => rfl
  | bool b => rfl
  | int i => rfl
  | str x => rfl
  | list l => rfl
  | tuple l => rfl
theorem is_number_int (i : Int) : ev_is_number [.val (.int i)] = some (.val (.bool (decide (0 ≤ i))), [.no]) := by
  have hg : gGe [.int i, .int 0] = some (.val (.bool (decide (0 ≤ i)))) := gGe_int.trans (by
    by_cases h : i < 0
    · simp [h]
    · simp [h, show 0 ≤ i by omega])
  have hi := is_integer_of (d := .int i) (fun _ e => nomatch e)
  exact defE_rt [.val (.int i)] (by rfl) (sRet_of (vB_of ((bAnd_t (e := [.val (.int i)]) (bV_of (callF_of (by rfl) (by rfl) (by rfl) (by rfl) (by rfl) (by exact hi) (by rfl)))).trans (bV_of (evP_of (by rfl) (by rfl) (by exact hg)))))) (by rfl)
theorem is_number_no {d : PyData} (h : ∀ kvs, d ≠ .dict kvs) (hn : (isiD d .int && !isiD d .bool) = false) : ev_is_number [.val d] = some (.val (.bool false), [.no]) := by
  have hi := is_integer_of h
  rw [hn] at hi
  exact defE_rt [.val d] (by rfl) (sRet_of (vB_of (bAnd_f (e := [.val d]) (bV_of (callF_of (by rfl) (by rfl) (by rfl) (by rfl) (by rfl) (by exact hi) (by rfl)))))) (by rfl)
theorem is_index_of {n : Int} {d : PyData} (h : ∀ kvs, d ≠ .dict kvs) : ev_is_index [.val d, .val (.int n)] = some (.val (.bool (isIx n d)), [.no, .no]) := by
  have no : (isiD d .int && !isiD d .bool) = false → isIx n d = false → ev_is_index [.val d, .val (.int n)] = some (.val (.bool (isIx n d)), [.no, .no]) := fun hn e => by
    rw [e]
    have hi := is_number_no h hn
    exact defE_rt [.val d, .val (.int n)] (by rfl) (sRet_of (vB_of (bAnd_f (e := [.val d, .val (.int n)]) (bV_of (callF_of (by rfl) (by rfl) (by rfl) (by rfl) (by rfl) (by exact hi) (by rfl)))))) (by rfl)
  cases d with
  | dict kvs => exact absurd rfl (h kvs)
  | none => exact no rfl rfl
  | bool b => exact no rfl rfl
  | str x => exact no rfl rfl
  | list l => exact no rfl rfl
  | tuple l => exact no rfl rfl
  | int i =>
    have hi := is_number_int i
    have hg : gLt [.int i, .int n] = some (.val (.bool (decide (i < n)))) := gLt_int
    by_cases h0 : 0 ≤ i
    · rw [decide_eq_true h0] at hi
      have e : isIx n (.int i) = decide (i < n) := by simp [isIx, h0]
      rw [e]
      exact defE_rt [.val (.int i), .val (.int n)] (by rfl) (sRet_of (vB_of ((bAnd_t (e := [.val (.int i), .val (.int n)]) (bV_of (callF_of (by rfl) (by rfl) (by rfl) (by rfl) (by rfl) (by exact hi) (by rfl)))).trans (bV_of (evP_of (by rfl) (by rfl) (by exact hg)))))) (by rfl)
    · rw [decide_eq_false h0] at hi
      have e : isIx n (.int i) = false := by simp [isIx, h0]
      rw [e]
      exact defE_rt [.val (.int i), .val (.int n)] (by rfl) (sRet_of (vB_of (bAnd_f (e := [.val (.int i), .val (.int n)]) (bV_of (callF_of (by rfl) (by rfl) (by rfl) (by rfl) (by rfl) (by exact hi) (by rfl)))))) (by rfl)
/-- the tests ahead of the sort -/
def preOk (n : Int) : PyData → Bool
  | .tuple l => decide ((l.length : Int) = n) && l.all (isIx n)
  | _ => false
theorem gAll_map {α : Type} (f : α → Bool) (l : List α) : gAll [.list (l.map fun a => PyData.bool (f a))] = some (.val (.bool (l.all f))) := by
  have h : ∀ l : List α, boolsOf (l.map fun a => PyData.bool (f a)) = some (l.map f) := fun l => by
    induction l with
    | nil => rfl
    | cons x l ih => simp [boolsOf, ih]
  show (boolsOf _).map _ = _
  rw [h]
  simp [List.all_map, Function.comp_def]
def noDct : PyData → Bool
  | .dict _ => false
  | _ => true
theorem noDct_ne {d : PyData} (h : noDct d = true) : ∀ kvs, d ≠ .dict kvs := fun kvs e => by subst e; cases h
theorem is_order_no {n : Int} {d : PyData} (hd : noDct d = true) (ht : ∀ l, d = .tuple l → l.all noDct = true ∧ l.length ≤ 16777216) (h : preOk n d = false) : ev_is_order [.val (.int n), .val d] = some (.val (.bool false), [.no, .no]) := by
  unfold ev_is_order bd_is_order
  have out : bNot (bV (eIsi [.tuple] (oN 1))) [.val (.int n), .val d, .no] = some (true, [.val (.int n), .val d, .no]) → defE 3 [false, false] (sSeq (sIf (bOr (bNot (bV (eIsi [.tuple] (oN 1)))) (bOr (bV (ev2 gNe (asO (evP gLen (consO (oN 1) (nilO)))) (oN 0))) (bNot (bV (evP gAll (consO (asO (vLc (iSeq (oN 1)) (gN 2) (bTrue) (asO (callF [false, false] ev_is_index (consO (oN 2) (consO (oN 0) (nilO))))) [2])) (nilO))))))) (sRet (vO (oC (.bool false)))) (sNext)) (sRet (ev2 gEq (asO (evP gSorted (consO (oN 1) (nilO)))) (asO (vLRg true (oN 0)))))) [.val (.int n), .val d] = some (.val (.bool false), [.no, .no]) := fun hc =>
    defE_rt [.val (.int n), .val d, .no] (by rfl) (sSeq_rt ((sIf_t (bOr_t hc)).trans (by rfl))) (by rfl)
  cases d with
  | dict kvs => cases hd
  | none => exact out rfl
  | bool b => exact out rfl
  | int i => exact out rfl
  | str x => exact out rfl
  | list l => exact out rfl
  | tuple l =>
    obtain ⟨hl1, hl2⟩ := ht l rfl
    have hlen : gLen [.tuple l] = some (.val (.int l.length)) := rfl
    have hc1 : (bV (ev2 gNe (asO (evP gLen (consO (oN 1) (nilO)))) (oN 0))) [.val (.int n), .val (.tuple l), .no] = some (!decide ((l.length : Int) = n), [.val (.int n), .val (.tuple l), .no]) := bV_of (evP_of (consO_of (asO_of (evP_of (by rfl) (by rfl) (by exact hlen)) (by rfl)) (by rfl)) (by rfl) (by exact gNe_int))
    have hc2 : bNot (bV (evP gAll (consO (asO (vLc (iSeq (oN 1)) (gN 2) (bTrue) (asO (callF [false, false] ev_is_index (consO (oN 2) (consO (oN 0) (nilO))))) [2])) (nilO)))) [.val (.int n), .val (.tuple l), .no] = some (!l.all (isIx n), [.val (.int n), .val (.tuple l), .no]) := by
      refine bNot_of (bV_of (evP_of (consO_of (asO_of (vLc_same (ds := l) (out := l.map fun d => .bool (isIx n d)) [.val (.int n), .val (.tuple l), .no] (by rfl) (lcF_all (f := fun d => .bool (isIx n d)) fun d m => ?_) ?_ (by rfl)) (by rfl)) (by rfl)) (by rfl) (by exact gAll_map _ _)))
      · have hi := is_index_of (n := n) (noDct_ne (List.all_eq_true.mp hl1 d m))
        exact lcT_of (by rfl) (by rfl) (asO_of (callF_of (by rfl) (by rfl) (by rfl) (by rfl) (by rfl) (by exact hi) (by rfl)) (by rfl)) (by rfl) (by rfl)
      · rw [List.length_map]; exact hl2
    have hc : (bOr (bV (ev2 gNe (asO (evP gLen (consO (oN 1) (nilO)))) (oN 0))) (bNot (bV (evP gAll (consO (asO (vLc (iSeq (oN 1)) (gN 2) (bTrue) (asO (callF [false, false] ev_is_index (consO (oN 2) (consO (oN 0) (nilO))))) [2])) (nilO)))))) [.val (.int n), .val (.tuple l), .no] = some (true, [.val (.int n), .val (.tuple l), .no]) := by
      by_cases h1 : (l.length : Int) = n
      · rw [decide_eq_true h1] at hc1
        have h2 : l.all (isIx n) = false := by
          have : (decide ((l.length : Int) = n) && l.all (isIx n)) = false := h
          rw [decide_eq_true h1, Bool.true_and] at this
          exact this
        rw [h2] at hc2
        exact (bOr_f hc1).trans hc2
      · rw [decide_eq_false h1] at hc1
        exact bOr_t hc1
    exact defE_rt [.val (.int n), .val (.tuple l), .no] (by rfl) (sSeq_rt ((sIf_t ((bOr_f (e := [.val (.int n), .val (.tuple l), .no]) (by rfl)).trans hc)).trans (by rfl))) (by rfl)
theorem sort_ints (l : List Int) : sortD (l.map .int) = (l.mergeSort fun a b => !decide (b < a)).map .int := by
  unfold sortD
  symm
  exact List.map_mergeSort (f := PyData.int) fun a _ b _ => by rw [dataLt_int]
theorem sortOk_ints (l : List Int) : SortOk (l.map .int) := by
  refine ⟨fun d m d' m' => ?_, .inr fun d m => ?_, fun d m => ?_⟩
  · obtain ⟨a, _, rfl⟩ := List.mem_map.mp m
    obtain ⟨b, _, rfl⟩ := List.mem_map.mp m'
    simp [PySem.W.alike]
  · obtain ⟨a, ma, rfl⟩ := List.mem_map.mp m
    exact ⟨by simp, by simp⟩
  · obtain ⟨a, _, rfl⟩ := List.mem_map.mp m
    exact sh_int a
theorem sort_perm {os : List Nat} {n : Nat} (h : os.Perm (List.range n)) : ((nI os).mergeSort fun a b => !decide (b < a)) = (List.range n).map Int.ofNat := by
  refine List.Perm.eq_of_pairwise (le := fun a b : Int => a ≤ b) (fun a b _ _ h1 h2 => by omega) ?_ ?_ ?_
  · have := List.pairwise_mergeSort (le := fun a b : Int => !decide (b < a)) (fun a b c h1 h2 => by simp at h1 h2 ⊢; omega) (fun a b => by simp; omega) (nI os)
    exact this.imp fun h => by simpa using h
  · rw [List.pairwise_map]
    exact List.pairwise_le_range.imp fun h => by simpa using h
  · refine (List.mergeSort_perm _ _).trans ?_
    exact h.map _
theorem is_order_yes {os : List Nat} {n : Nat} (h : os.Perm (List.range n)) (hn : n ≤ 16777216) : ev_is_order [.val (.int n), .val (uT (nI os))] = some (.val (.bool true), [.no, .no]) := by
  unfold ev_is_order bd_is_order
  have hl : os.length = n := by rw [h.length_eq, List.length_range]
  have hlen : gLen [uT (nI os)] = some (.val (.int n)) := by
    show some (Slot.val (PyData.int ((nI os).map PyData.int).length)) = _
    simp [nI, hl]
  have hc1 : (bV (ev2 gNe (asO (evP gLen (consO (oN 1) (nilO)))) (oN 0))) [.val (.int n), .val (uT (nI os)), .no] = some (false, [.val (.int n), .val (uT (nI os)), .no]) :=
    bV_of (evP_of (consO_of (asO_of (evP_of (by rfl) (by rfl) (by exact hlen)) (by rfl)) (by rfl)) (by rfl) (gNe_int.trans (by simp)))
  have hall : ((nI os).map PyData.int).all (isIx n) = true := by
    rw [List.all_eq_true]
    intro d m
    simp [nI] at m
    obtain ⟨o, mo, rfl⟩ := m
    have := List.mem_range.mp (h.mem_iff.mp mo)
    simp [isIx]
    omega
  have hc2 : bNot (bV (evP gAll (consO (asO (vLc (iSeq (oN 1)) (gN 2) (bTrue) (asO (callF [false, false] ev_is_index (consO (oN 2) (consO (oN 0) (nilO))))) [2])) (nilO)))) [.val (.int n), .val (uT (nI os)), .no] = some (!((nI os).map PyData.int).all (isIx n), [.val (.int n), .val (uT (nI os)), .no]) := by
    refine bNot_of (bV_of (evP_of (consO_of (asO_of (vLc_same (ds := (nI os).map .int) (out := ((nI os).map PyData.int).map fun d => .bool (isIx n d)) [.val (.int n), .val (uT (nI os)), .no] (by rfl) (lcF_all (f := fun d => .bool (isIx n d)) fun d m => ?_) ?_ (by rfl)) (by rfl)) (by rfl)) (by rfl) (by exact gAll_map _ _)))
    · have hd : ∀ kvs, d ≠ .dict kvs := fun kvs e => by
        subst e
        simp at m
      have hi := is_index_of (n := n) hd
      exact lcT_of (by rfl) (by rfl) (asO_of (callF_of (by rfl) (by rfl) (by rfl) (by rfl) (by rfl) (by exact hi) (by rfl)) (by rfl)) (by rfl) (by rfl)
    · simp [nI, hl]
      exact hn
  rw [hall] at hc2
  have hs : gSorted [uT (nI os)] = some (.own (.list ((List.range n).map fun i => .int (Int.ofNat i)))) := by
    have e : gSorted [uT (nI os)] = given (SortOk ((nI os).map .int)) (some (.own (.list (sortD ((nI os).map .int))))) := rfl
    rw [e, given_pos (sortOk_ints _), sort_ints, sort_perm h, List.map_map]
    rfl
  have hr : rngD 0 (n : Int).toNat = (List.range n).map fun i => .int (Int.ofNat i) := rng_nat n
  have hq : gEq [.list ((List.range n).map fun i => .int (Int.ofNat i)), .list ((List.range n).map fun i => .int (Int.ofNat i))] = some (.val (.bool true)) := by
    have e : (PyData.list ((List.range n).map fun i => .int (Int.ofNat i))) = uL ((List.range n).map Int.ofNat) := by simp [uL, Function.comp_def]
    rw [e]
    refine (gEq_of (sh_lI _) (sh_lI _)).trans ?_
    rw [eqv_lI]
    simp
  have ho : L2.RgOk 0 (n : Int) := L2.RgOk.of_le (by omega) (by omega) (by omega) (by omega)
  have hv : vLRg true (oN 0) [.val (.int n), .val (uT (nI os)), .no] = some (.own (.list ((List.range n).map fun i => .int (Int.ofNat i))), [.val (.int n), .val (uT (nI os)), .no]) := by
    rw [← hr]
    exact lRg_of (own := true) (by rfl) (by rfl) ho
  exact defE_rt [.val (.int n), .val (uT (nI os)), .no] (by rfl) ((sSeq_nx (e := [.val (.int n), .val (uT (nI os)), .no]) ((sIf_f (e := [.val (.int n), .val (uT (nI os)), .no]) ((bOr_f (e := [.val (.int n), .val (uT (nI os)), .no]) (by rfl)).trans ((bOr_f hc1).trans hc2))).trans (by rfl))).trans
    (sRet_of (evP_of (consO_of (asO_of (evP_of (by rfl) (by rfl) (by exact hs)) (by rfl)) (consO_of (asO_of hv (by rfl)) (by rfl))) (by rfl) (by exact hq)))) (by rfl)
end Pf
/-! PlH: draws. -/
namespace Pf
open PySem PySem.Spec
def DealOk (cs : List Int) (b : Int) : Prop := 0 ≤ b ∧ b < 2147483647 ∧ cs.length ≤ 48
theorem dropWhile_len {α : Type} (p : α → Bool) (l : List α) : (l.dropWhile p).length ≤ l.length := by
  induction l with
  | nil => simp
  | cons a l ih =>
    rw [List.dropWhile_cons]
    split
    · simp; omega
    · simp
theorem trim_len (cs : List Int) : (trim cs).length ≤ cs.length := by
  unfold trim
  rw [List.length_reverse]
  refine Nat.le_trans (dropWhile_len _ _) ?_
  simp
theorem any_of {cs : List Int} {b n : Int} (hd : DealOk cs b) (hn : 0 < n) (hb : n < 1000000) : ∃ r cs' b', anyF [.deal cs b, .val (.int n)] = some (.val (.int r), [.deal cs' b', .no]) ∧ 0 ≤ r ∧ r < n ∧ DealOk cs' b' := by
  obtain ⟨h1, h2, h3⟩ := hd
  have hok : AnyOk cs b n := ⟨hn, (L2.wide_div (i := 0) (b := 20) hn (by omega) (by decide) (by decide)).2, h1, h2, by show _ ≤ 16777216; omega⟩
  refine ⟨(anyV cs b n).1, (anyV cs b n).2.1, (anyV cs b n).2.2, ifP_pos hok, ?_⟩
  have hl := trim_len cs
  unfold anyV
  split
  · rename_i r e
    refine ⟨Int.emod_nonneg _ (by omega), Int.emod_lt_of_pos _ hn, h1, h2, ?_⟩
    have hne : trim cs ≠ [] := fun e2 => by rw [e2] at e; cases e
    have := List.length_pos_iff.mpr hne
    simp
    omega
  · refine ⟨Int.emod_nonneg _ (by omega), Int.emod_lt_of_pos _ hn, Int.emod_nonneg _ (by decide), Int.emod_lt_of_pos _ (by decide), by simp⟩
theorem toNat_of {r : Int} (h : 0 ≤ r) : ∃ i : Nat, r = (i : Int) := ⟨r.toNat, by omega⟩
theorem erase_map {α β : Type} (f : α → β) : ∀ (l : List α) (i : Nat), (l.map f).eraseIdx i = (l.eraseIdx i).map f
  | [], _ => rfl
  | _ :: _, 0 => rfl
  | a :: l, i + 1 => by simp [erase_map f l i]
theorem erase_perm {α : Type} : ∀ (l : List α) (i : Nat) (h : i < l.length), (l[i] :: l.eraseIdx i).Perm l
  | [], _, h => by simp at h
  | a :: l, 0, _ => List.Perm.refl _
  | a :: l, i + 1, h => by
    have hi : i < l.length := by simpa using h
    have := erase_perm l i hi
    show (l[i] :: a :: l.eraseIdx i).Perm (a :: l)
    exact (List.Perm.swap a l[i] _).trans (List.Perm.cons a this)
/-- one of a list -/
theorem of_of {cs : List Int} {b : Int} {ds : List PyData} (hd : DealOk cs b) (h0 : ds ≠ []) (hl : ds.length < 1000000) : ∃ d ∈ ds, ∃ cs' b', ev_law_of [.deal cs b, .val (.list ds)] = some (.val d, [.deal cs' b', .no]) ∧ DealOk cs' b' := by
  have hp := List.length_pos_iff.mpr h0
  obtain ⟨r, cs', b', h1, h2, h3, h4⟩ := any_of (n := (ds.length : Int)) hd (by omega) (by omega)
  obtain ⟨i, rfl⟩ := toNat_of h2
  have hi : i < ds.length := by omega
  have hg : gSub1 [.list ds, .int (i : Int)] = some (.val ds[i]) := by
    show (L2.atI _ _).map Slot.val = _
    rw [L2.atI_nat (List.getElem?_eq_getElem hi)]
    rfl
  refine ⟨ds[i], List.getElem_mem hi, cs', b', ?_, h4⟩
  have hlen : gLen [.list ds] = some (.val (.int (ds.length : Int))) := rfl
  exact defE_rt [.deal cs b, .val (.list ds)] (by rfl) (sRet_of (evP_of (consO_of (by rfl) (consO_of (asO_of (callF_of (consO_of (by rfl) (consO_of (asO_of (evP_of (by rfl) (by rfl) (by exact hlen)) (by rfl)) (by rfl))) (by rfl) (by rfl) (by rfl) (by rfl) (by exact h1) (by rfl)) (by rfl)) (by rfl))) (by rfl) (by exact hg))) (by rfl)
/-- all of a list, in some order -/
theorem mixed_of {cs : List Int} {b : Int} {l : List Int} (hd : DealOk cs b) (hl : l.length < 1000000) : ∃ ys, ys.Perm l ∧ ∃ cs' b', ev_law_mixed [.deal cs b, .val (uL l)] = some (.own (uL ys), [.deal cs' b', .no]) ∧ DealOk cs' b' := by
  have loop : ∀ (m : Nat) (left found cs : List Int) (b : Int), left.length = m → DealOk cs b → left.length + found.length < 1000000 → ∃ ys, ys.Perm left ∧ ∃ cs' b', DealOk cs' b' ∧
      whileL (bV (ev2 gNe (oN 2) (asO (vLst (nilO))))) (sDrop (vApp 3 (asO (vPopAt 2 (asO (callF [true, false] anyF (consO (oN 0) (consO (asO (evP gLen (consO (oN 2) (nilO)))) (nilO)))))))))  (m + 1) [.deal cs b, .val (uL l), .own (uL left), .own (uL found)] = some (.nx [.deal cs' b', .val (uL l), .own (uL []), .own (uL (found ++ ys))]) := by
    intro m
    induction m with
    | zero =>
      intro left found cs b e hd hb
      have e0 : left = [] := List.length_eq_zero_iff.mp e
      subst e0
      have hz : Fits 0 := show 0 ≤ 16777216 by decide
      have hne : gNe [uL [], .list []] = some (.val (.bool false)) := (gNe_of (sh_lI []) (sh_lI [])).trans (by rw [eqv_lI]; simp)
      have hc : (bV (ev2 gNe (oN 2) (asO (vLst (nilO))))) [.deal cs b, .val (uL l), .own (uL []), .own (uL found)] = some (false, [.deal cs b, .val (uL l), .own (uL []), .own (uL found)]) := bV_of (evP_of (consO_of (by rfl) (consO_of (asO_of (vLst_of (by rfl) (by rfl) (by exact hz)) (by rfl)) (by rfl))) (by rfl) (by exact hne))
      exact ⟨[], .nil, cs, b, hd, by rw [whileL_f hc, List.append_nil]⟩
    | succ m ih =>
      intro left found cs b e hd hb
      have hz : Fits 0 := show 0 ≤ 16777216 by decide
      have hne : gNe [uL left, .list []] = some (.val (.bool true)) := (gNe_of (sh_lI left) (sh_lI [])).trans (by
        rw [eqv_lI]
        have : left ≠ [] := fun z => by rw [z] at e; cases e
        simp [this])
      have hc : (bV (ev2 gNe (oN 2) (asO (vLst (nilO))))) [.deal cs b, .val (uL l), .own (uL left), .own (uL found)] = some (true, [.deal cs b, .val (uL l), .own (uL left), .own (uL found)]) := bV_of (evP_of (consO_of (by rfl) (consO_of (asO_of (vLst_of (by rfl) (by rfl) (by exact hz)) (by rfl)) (by rfl))) (by rfl) (by exact hne))
      obtain ⟨r, cs', b', h1, h2, h3, h4⟩ := any_of (n := (left.length : Int)) hd (by omega) (by omega)
      obtain ⟨i, rfl⟩ := toNat_of h2
      have hi : i < left.length := by omega
      have hlen : gLen [uL left] = some (.val (.int (left.length : Int))) := by
        show some (Slot.val (PyData.int ((left.map PyData.int).length : Int))) = _
        rw [List.length_map]
      have hix : L2.ixN (left.map PyData.int).length (i : Int) = some i := ixN_nat (by rw [List.length_map]; exact hi)
      have hat : (left.map PyData.int)[i]? = some (.int left[i]) := by rw [List.getElem?_map, List.getElem?_eq_getElem hi]; rfl
      have her : (left.map PyData.int).eraseIdx i = (left.eraseIdx i).map .int := erase_map _ _ _
      have f1 : Fits (left.map PyData.int).length := by rw [List.length_map]; show _ ≤ 16777216; omega
      have f2 : Fits ((found.map PyData.int).length + 1) := by rw [List.length_map]; show _ ≤ 16777216; omega
      have hb2 : (sDrop (vApp 3 (asO (vPopAt 2 (asO (callF [true, false] anyF (consO (oN 0) (consO (asO (evP gLen (consO (oN 2) (nilO)))) (nilO)))))))))  [.deal cs b, .val (uL l), .own (uL left), .own (uL found)] = some (.nx [.deal cs' b', .val (uL l), .own (uL (left.eraseIdx i)), .own (uL (found ++ [left[i]]))]) := by
        have e2 : uL (left.eraseIdx i) = .list ((left.map PyData.int).eraseIdx i) := by rw [her]; rfl
        have e3 : uL (found ++ [left[i]]) = .list (found.map PyData.int ++ [.int left[i]]) := by simp [uL]
        rw [e2, e3]
        exact sDrop_of (vApp_of (i := 3) (e2 := [.deal cs' b', .val (uL l), .own (.list ((left.map PyData.int).eraseIdx i)), .own (uL found)]) (ds := found.map .int) (d := .int left[i]) (by rfl) (asO_of (vPopAt_of (i := 2) (e1 := [.deal cs' b', .val (uL l), .own (uL left), .own (uL found)]) (by rfl) (asO_of (callF_of (consO_of (by rfl) (consO_of (asO_of (evP_of (by rfl) (by rfl) (by exact hlen)) (by rfl)) (by rfl))) (by rfl) (by rfl) (by rfl) (by rfl) (by exact h1) (by rfl)) (by rfl)) (by rfl) (by rfl) (by exact hix) (by exact hat) (by exact f1)) (by rfl)) (by rfl) (by rfl) (by exact f2))
      have hle : (left.eraseIdx i).length = m := by rw [List.length_eraseIdx_of_lt hi]; omega
      obtain ⟨ys, hp, cs2, b2, hd2, hw⟩ := ih (left.eraseIdx i) (found ++ [left[i]]) cs' b' hle h4 (by simp; omega)
      refine ⟨left[i] :: ys, ?_, cs2, b2, hd2, ?_⟩
      · exact (List.Perm.cons _ hp).trans (erase_perm left i hi)
      · rw [whileL_t hc hb2, hw]
        simp
  obtain ⟨ys, hp, cs', b', hd', hw⟩ := loop l.length l [] cs b rfl hd (by simp; omega)
  refine ⟨ys, hp, cs', b', ?_, hd'⟩
  have hz : Fits 0 := show 0 ≤ 16777216 by decide
  exact defE_rt [.deal cs b, .val (uL l), .no, .no] (by rfl) ((sSeq_nx (e := [.deal cs b, .val (uL l), .own (uL l), .own (uL [])]) (sPar_of (i := 2) (j := 3) (e1 := [.deal cs b, .val (uL l), .no, .no]) (e2 := [.deal cs b, .val (uL l), .no, .no]) (s := .own (uL l)) (s' := .own (uL [])) (by rfl) (vLst_of (by rfl) (by rfl) (by exact hz)) (by simp))).trans ((sSeq_nx (sWhile_of hw)).trans (by rfl))) (by rfl)
theorem order_of {cs : List Int} {b : Int} {n : Nat} (hd : DealOk cs b) (hn : n < 1000000) : ∃ os, os.Perm (List.range n) ∧ ∃ cs' b', ev_law_order [.deal cs b, .val (.int n)] = some (.val (uT (nI os)), [.deal cs' b', .no]) ∧ DealOk cs' b' := by
  obtain ⟨ys, hp, cs', b', h1, h2⟩ := mixed_of (l := (List.range n).map Int.ofNat) hd (by simpa using hn)
  -- the numbers are those of places
  have hy : ys = nI (ys.map Int.toNat) := by
    unfold nI
    rw [List.map_map]
    refine (List.map_id ys).symm.trans (List.map_congr_left fun y m => ?_)
    have := hp.mem_iff.mp m
    obtain ⟨i, _, e⟩ := List.mem_map.mp this
    show y = Int.ofNat y.toNat
    rw [← e]
    rfl
  have hos : (ys.map Int.toNat).Perm (List.range n) := by
    have := hp.map Int.toNat
    rw [List.map_map] at this
    have e : (List.range n).map (Int.toNat ∘ Int.ofNat) = List.range n := by
      refine (List.map_congr_left fun i _ => ?_).trans (List.map_id _)
      rfl
    rw [e] at this
    exact this
  refine ⟨ys.map Int.toNat, hos, cs', b', ?_, h2⟩
  rw [← hy]
  have hr : rngD 0 (n : Int).toNat = ((List.range n).map Int.ofNat).map .int := by rw [List.map_map]; exact rng_nat n
  have ho : L2.RgOk 0 (n : Int) := L2.RgOk.of_le (by omega) (by omega) (by omega) (by omega)
  have hv : vLRg true (oN 1) [.deal cs b, .val (.int n)] = some (.own (uL ((List.range n).map Int.ofNat)), [.deal cs b, .val (.int n)]) := by
    rw [show uL ((List.range n).map Int.ofNat) = .list (rngD 0 (n : Int).toNat) by rw [hr]; rfl]
    exact lRg_of (own := true) (by rfl) (by rfl) ho
  exact defE_rt [.deal cs b, .val (.int n)] (by rfl) (sRet_of (evP_of (consO_of (asO_of (callF_of (consO_of (by rfl) (consO_of (asO_of hv (by rfl)) (by rfl))) (by rfl) (by rfl) (by rfl) (by rfl) (by exact h1) (by rfl)) (by rfl)) (by rfl)) (by rfl) (by rfl))) (by rfl)
end Pf
/-! PlI: the source of draws made; some powers; a polynomial. -/
namespace Pf
open PySem PySem.Spec
theorem cut_head (l : List Int) (k : Nat) : cutD (l.map .int) none (some (k : Int)) = (l.take (min k l.length)).map .int := by
  unfold cutD
  rw [HT.sIx_none, HT.sIx_nat, List.length_map, List.drop_zero, Nat.sub_zero, List.map_take]
theorem draw_of (ns : List Int) (hl : ns.length ≤ 63) : ∃ cs b, ev_law_draw [.val (uL ns), .val (.int 21)] = some (.deal cs b, [.no, .no]) ∧ DealOk cs b := by
  let l2 := (ns.take (min 48 ns.length)).map fun i => if i < 0 then -i else i
  have hl2 : l2.length ≤ 48 := by simp [l2]; omega
  have hf2 : Fits ((l2.map PyData.int).length) := by rw [List.length_map]; show _ ≤ 16777216; omega
  have hm1 : gMul [.int 104729, .int 21] = some (.val (.int (104729 * 21))) := gMul_of (L2.wide_mul (a := 17) (b := 5) (by decide) (by decide) (by decide) (by decide) (by decide))
  -- the cells
  have c1 : vLc (iSeq (asO (vCut (oN 0) none (some (oC (.int 48)))))) (gN 4) (bTrue) (asO (evP gAbs (consO (asO (evP gInt (consO (oN 4) (nilO)))) (nilO)))) [4] [.val (uL ns), .val (.int 21), .no, .no, .no] = some (.own (uL l2), [.val (uL ns), .val (.int 21), .no, .no, .no]) := by
    refine vLc_same (ds := (ns.take (min 48 ns.length)).map .int) (out := l2.map .int) [.val (uL ns), .val (.int 21), .no, .no, .no] ?_ ?_ hf2 (by rfl)
    · rw [← cut_head ns 48]
      rfl
    · rw [show l2.map PyData.int = (ns.take (min 48 ns.length)).map fun i => .int (if i < 0 then -i else i) by simp [l2, Function.comp_def]]
      exact lcF_allm fun i _ => lcT_of (by rfl) (by rfl) (asO_of (evP_of (by rfl) (by rfl) (by rfl)) (by rfl)) (by rfl) (by rfl)
  -- the blend
  have loop : ∀ (l : List Int) (b : Int) (j : Slot), 0 ≤ b → b < 2147483647 → ∃ b' j', 0 ≤ b' ∧ b' < 2147483647 ∧ forL (gN 4) (sSet 3 (ev2 gMod (asO (evP gInt (consO (asO (ev2 gAdd (asO (ev2 gAdd (asO (ev2 gMul (oN 3) (oC (.int 48271)))) (asO (ev2 gMod (oN 4) (oC (.int 2147483549)))))) (oC (.int 11)))) (nilO)))) (oC (.int 2147483647))))
      (l.map .int) [.val (uL ns), .val (.int 21), .val (uL l2), .val (.int b), j] = some (.nx [.val (uL ns), .val (.int 21), .val (uL l2), .val (.int b'), j']) := by
    intro l
    induction l with
    | nil => intro b j h1 h2; exact ⟨b, j, h1, h2, rfl⟩
    | cons c l ih =>
      intro b j h1 h2
      have hm : gMul [.int b, .int 48271] = some (.val (.int (b * 48271))) := gMul_of (L2.wide_mul (a := 31) (b := 16) (by omega) (by decide) (by decide) (by decide) (by decide))
      have hm2 : gMod [.int c, .int 2147483549] = some (.val (.int (c % 2147483549))) := gMod_of (by decide)
      have hm3 : gMod [.int (b * 48271 + c % 2147483549 + 11), .int 2147483647] = some (.val (.int ((b * 48271 + c % 2147483549 + 11) % 2147483647))) := gMod_of (by decide)
      obtain ⟨b', j', g1, g2, g3⟩ := ih ((b * 48271 + c % 2147483549 + 11) % 2147483647) (.val (.int c)) (Int.emod_nonneg _ (by decide)) (Int.emod_lt_of_pos _ (by decide))
      refine ⟨b', j', g1, g2, ?_⟩
      rw [List.map_cons, forL_nx (e1 := [.val (uL ns), .val (.int 21), .val (uL l2), .val (.int b), .val (.int c)]) (e2 := [.val (uL ns), .val (.int 21), .val (uL l2), .val (.int ((b * 48271 + c % 2147483549 + 11) % 2147483647)), .val (.int c)]) (by rfl) ?_, g3]
      exact sSet_of (i := 3) (e := [.val (uL ns), .val (.int 21), .val (uL l2), .val (.int b), .val (.int c)]) (s := .val (.int ((b * 48271 + c % 2147483549 + 11) % 2147483647)))
        (evP_of (consO_of (asO_of (evP_of (consO_of (asO_of (evP_of (consO_of (asO_of (evP_of (consO_of (asO_of (evP_of (by rfl) (by rfl) (by exact hm)) (by rfl)) (consO_of (asO_of (evP_of (by rfl) (by rfl) (by exact hm2)) (by rfl)) (by rfl))) (by rfl) (by rfl)) (by rfl)) (by rfl)) (by rfl) (by rfl)) (by rfl)) (by rfl)) (by rfl) (by rfl)) (by rfl)) (by rfl)) (by rfl) (by exact hm3)) (by simp)
  obtain ⟨b', j', h1, h2, h3⟩ := loop l2 (7919 + 104729 * 21) .no (by decide) (by decide)
  -- the great cells
  let l3 := l2.filter fun c => !decide (c < 10 ^ 18)
  have hl3 : l3.length ≤ l2.length := List.length_filter_le _ _
  have hf3 : Fits (l3.map PyData.int).length := by rw [List.length_map]; show _ ≤ 16777216; omega
  have hp : gPow [.int 10, .int 18] = some (.val (.int (10 ^ 18))) := given_pos (p := L2.CPow 10 18) ⟨by decide, by decide, by decide⟩
  have c2 : vLc (iSeq (oN 2)) (gN 4) (bV (ev2 gGe (oN 4) (asO (ev2 gPow (oC (.int 10)) (oC (.int 18)))))) (oN 4) [4] [.val (uL ns), .val (.int 21), .val (uL l2), .val (.int b'), j'] = some (.own (uL l3), backS [.val (uL ns), .val (.int 21), .val (uL l2), .val (.int b'), j'] (wipeS [.val (uL ns), .val (.int 21), .val (uL l2), .val (.int b'), j'] [4]) [4]) := by
    refine vLc_same (ds := l2.map .int) (out := l3.map .int) [.val (uL ns), .val (.int 21), .val (uL l2), .val (.int b'), j'] (by rfl) ?_ hf3 (by rfl)
    have e : l3.map PyData.int = l2.filterMap fun c => if (!decide (c < 10 ^ 18)) then some (.int c) else none := (filterMap_if _ _ _).symm
    rw [e]
    refine lcF_mapm fun c m => ?_
    have hc : (bV (ev2 gGe (oN 4) (asO (ev2 gPow (oC (.int 10)) (oC (.int 18)))))) [.val (uL ns), .val (.int 21), .val (uL l2), .val (.int b'), .val (.int c)] = some (!decide (c < 10 ^ 18), [.val (uL ns), .val (.int 21), .val (uL l2), .val (.int b'), .val (.int c)]) :=
      bV_of (evP_of (consO_of (by rfl) (consO_of (asO_of (evP_of (by rfl) (by rfl) (by exact hp)) (by rfl)) (by rfl))) (by rfl) (by exact gGe_int))
    by_cases h0 : c < 10 ^ 18
    · rw [decide_eq_true h0] at hc ⊢
      exact lcT_no (by rfl) hc (by rfl)
    · rw [decide_eq_false h0] at hc ⊢
      exact lcT_of (by rfl) hc (by rfl) (by rfl) (by rfl)
  refine ⟨l3.reverse, b', ?_, h1, h2, by rw [List.length_reverse]; omega⟩
  have hints : intsOf' (l3.map PyData.int).reverse = some l3.reverse := by
    rw [← List.map_reverse]
    have : ∀ l : List Int, intsOf' (l.map .int) = some l := fun l => by
      induction l with
      | nil => rfl
      | cons x l ih => simp [intsOf', intOf, ih]
    exact this _
  have hv : (vDeal (vRev (asO (vLc (iSeq (oN 2)) (gN 4) (bV (ev2 gGe (oN 4) (asO (ev2 gPow (oC (.int 10)) (oC (.int 18)))))) (oN 4) [4]))) (oN 3)) [.val (uL ns), .val (.int 21), .val (uL l2), .val (.int b'), j'] = some (.deal l3.reverse b', [.val (uL ns), .val (.int 21), .val (uL l2), .val (.int b'), keepV j']) := by
    have hr : (vRev (asO (vLc (iSeq (oN 2)) (gN 4) (bV (ev2 gGe (oN 4) (asO (ev2 gPow (oC (.int 10)) (oC (.int 18)))))) (oN 4) [4]))) [.val (uL ns), .val (.int 21), .val (uL l2), .val (.int b'), j'] = some (.own (.list (l3.map PyData.int).reverse), [.val (uL ns), .val (.int 21), .val (uL l2), .val (.int b'), keepV j']) := evP_of (consO_of (asO_of c2 (by rfl)) (by rfl)) (by rfl) (by rfl)
    unfold vDeal
    rw [hr]
    simp only [Option.bind_some]
    show ((dealS (.own (.list (l3.map PyData.int).reverse)) (.int b')).bind fun s => some (s, _)) = _
    unfold dealS
    simp only [hints, Option.bind_some, intOf]
  exact defE_rt [.val (uL ns), .val (.int 21), .no, .no, .no] (by rfl) ((sSeq_nx (e := [.val (uL ns), .val (.int 21), .own (uL l2), .no, .no]) (sSet_of (i := 2) (e := [.val (uL ns), .val (.int 21), .no, .no, .no]) c1 (by simp))).trans
    ((sSeq_nx (e := [.val (uL ns), .val (.int 21), .own (uL l2), .val (.int (7919 + 104729 * 21)), .no]) (sSet_of (i := 3) (e := [.val (uL ns), .val (.int 21), .own (uL l2), .no, .no]) (s := .val (.int (7919 + 104729 * 21))) (evP_of (consO_of (by rfl) (consO_of (asO_of (evP_of (by rfl) (by rfl) (by exact hm1)) (by rfl)) (by rfl))) (by rfl) (by rfl)) (by simp))).trans
      ((sSeq_nx ((sFor_of (ds := l2.map .int) (e := [.val (uL ns), .val (.int 21), .val (uL l2), .val (.int (7919 + 104729 * 21)), .no]) (by rfl)).trans h3)).trans (sRet_of hv)))) (by rfl)
end Pf
/-! PlJ: some powers drawn. -/
namespace Pf
open PySem PySem.Spec
def Row (n : Nat) (bound : Int) (a : List Int) : Prop := a.length = n ∧ ∀ x ∈ a, 0 ≤ x ∧ x < bound
theorem ints_of {out : List PyData} {G : Int → Prop} (h : ∀ v ∈ out, ∃ r, v = .int r ∧ G r) : ∃ rs : List Int, out = rs.map .int ∧ ∀ r ∈ rs, G r := by
  induction out with
  | nil => exact ⟨[], rfl, by simp⟩
  | cons v out ih =>
    obtain ⟨r, e, g⟩ := h v List.mem_cons_self
    obtain ⟨rs, e2, g2⟩ := ih fun u m => h u (List.mem_cons_of_mem _ m)
    exact ⟨r :: rs, by rw [e, e2]; rfl, fun x m => by
      rcases List.mem_cons.mp m with z | z
      · rw [z]; exact g
      · exact g2 x z⟩
theorem sh_TT (L : List (List Int)) : Sh (.list (L.map uT)) ∧ Sh (.tuple (L.map uT)) := by
  have h : noDicts (L.map uT) = true ∧ PyData.canLayAll0 (L.map uT) = true ∧ PyData.depthAll (L.map uT) ≤ 2 := by
    induction L with
    | nil => simp [noDicts, PyData.canLayAll0, PyData.depthAll]
    | cons t P ih =>
      obtain ⟨h1, h2, h3⟩ := ih
      have := depth_tI t
      refine ⟨by simp [noDicts, (sh_tI t).1, h1], by simp [PyData.canLayAll0, canLay_tI, h2], ?_⟩
      simp only [List.map_cons, PyData.depthAll]
      omega
  obtain ⟨h1, h2, h3⟩ := h
  constructor
  · refine ⟨by simp [noDict, h1], ?_⟩
    unfold SeqAt.shaped
    rw [Bool.and_eq_true]
    exact ⟨by simp [PyData.canLay0, h2], by simp only [PyData.depth]; exact decide_eq_true (by omega)⟩
  · refine ⟨by simp [noDict, h1], ?_⟩
    unfold SeqAt.shaped
    rw [Bool.and_eq_true]
    exact ⟨by simp [PyData.canLay0, h2], by simp only [PyData.depth]; exact decide_eq_true (by omega)⟩
theorem any_uT (L : List (List Int)) (a : List Int) : ((L.map uT).any fun z => PyData.eqv z (uT a)) = decide (a ∈ L) := by
  rw [List.any_map, Bool.eq_iff_iff]
  simp [eqv_tI]
theorem notIn_list (L : List (List Int)) (a : List Int) : gNotIn [uT a, .list (L.map uT)] = some (.val (.bool (!decide (a ∈ L)))) := by
  have e : gNotIn [uT a, .list (L.map uT)] = given (Sh (uT a) ∧ Sh (.list (L.map uT))) (some (.val (.bool (!(L.map uT).any fun z => PyData.eqv z (uT a))))) := rfl
  rw [e, given_pos ⟨sh_tI a, (sh_TT L).1⟩, any_uT]
theorem notIn_tuple (L : List (List Int)) (a : List Int) : gNotIn [uT a, .tuple (L.map uT)] = some (.val (.bool (!decide (a ∈ L)))) := by
  have e : gNotIn [uT a, .tuple (L.map uT)] = given (Sh (uT a) ∧ Sh (.tuple (L.map uT))) (some (.val (.bool (!(L.map uT).any fun z => PyData.eqv z (uT a))))) := rfl
  rw [e, given_pos ⟨sh_tI a, (sh_TT L).2⟩, any_uT]
section
variable {n many : Nat} {bound : Int}
abbrev sE (n many : Nat) (bound : Int) (cs : List Int) (b : Int) (s4 s5 s6 s7 s8 : Slot) : Env1 := [.deal cs b, .val (.int n), .val (.int many), .val (.int bound), s4, s5, s6, s7, s8]
/-- a draw within the frame -/
theorem call_any {cs cs' : List Int} {b b' r m : Int} {o : EvO} {s4 s5 s6 s7 s8 : Slot} (h : anyF [.deal cs b, .val (.int m)] = some (.val (.int r), [.deal cs' b', .no])) (ho : o = oN 1 ∧ m = n ∨ o = oN 3 ∧ m = bound) :
    asO (callF [true, false] anyF (consO (oN 0) (consO o nilO))) (sE n many bound cs b s4 s5 s6 s7 s8) = some (.dat (.int r), sE n many bound cs' b' s4 s5 s6 s7 s8) := by
  rcases ho with ⟨rfl, rfl⟩ | ⟨rfl, rfl⟩
  · exact asO_of (callF_of (by rfl) (by rfl) (by rfl) (by rfl) (by rfl) (by exact h) (by rfl)) (by rfl)
  · exact asO_of (callF_of (by rfl) (by rfl) (by rfl) (by rfl) (by rfl) (by exact h) (by rfl)) (by rfl)
theorem row_draw {cs : List Int} {b : Int} {s4 s5 s6 s7 : Slot} (hd : DealOk cs b) (hb0 : 0 < bound) (hb1 : bound < 1000000) (hn : n < 1000000) : ∃ a cs' b', Row n bound a ∧ DealOk cs' b' ∧
    vLc (Pf.iRng1 (oN 1)) (gN 8) (bTrue) (asO (callF [true, false] anyF (consO (oN 0) (consO (oN 3) (nilO))))) [8] (sE n many bound cs b s4 s5 s6 s7 .no) = some (.own (uL a), sE n many bound cs' b' s4 s5 s6 s7 .no) := by
  obtain ⟨out, st, h1, h2, h3, h4⟩ := lcF_inv (S := List Int × Int) (t := lcT (gN 8) bTrue (asO (callF [true, false] anyF (consO (oN 0) (consO (oN 3) (nilO))))) [8]) (W := fun s => sE n many bound s.1 s.2 s4 s5 s6 s7 .no) (P := fun s => DealOk s.1 s.2) (R := fun v => ∃ r, v = .int r ∧ (0 ≤ r ∧ r < bound))
    (ds := (List.range n).map fun i => .int (Int.ofNat i)) (s := (cs, b)) hd fun d m s hs => by
      obtain ⟨r, cs', b', g1, g2, g3, g4⟩ := any_of hs hb0 hb1
      exact ⟨.int r, (cs', b'), lcT_of (e1 := sE n many bound s.1 s.2 s4 s5 s6 s7 (.val d)) (e2 := sE n many bound s.1 s.2 s4 s5 s6 s7 (.val d)) (by rfl) (by rfl) (call_any g1 (.inr ⟨rfl, rfl⟩)) (by rfl) (by rfl), g4, r, rfl, g2, g3⟩
  obtain ⟨rs, e, hrs⟩ := ints_of h4
  subst e
  have hlen : rs.length = n := by simpa using h3
  refine ⟨rs, st.1, st.2, ⟨hlen, hrs⟩, h2, ?_⟩
  have hI : Pf.iRng1 (oN 1) (sE n many bound cs b s4 s5 s6 s7 .no) = some ((List.range n).map fun i => .int (Int.ofNat i), sE n many bound cs b s4 s5 s6 s7 .no) := by
    rw [← rng_nat]
    exact iRng1_of (by rfl) (by rfl) (small_nat (by omega))
  exact vLc_of (e1 := sE n many bound cs b s4 s5 s6 s7 .no) hI (by exact h1) (by rw [List.length_map, hlen]; show _ ≤ 16777216; omega)
def SomeOk (n : Nat) (bound : Int) (L : List (List Int)) : Prop := L ≠ [] ∧ (∀ a ∈ L, Row n bound a) ∧ L.Nodup
theorem some_of {cs : List Int} {b : Int} (hd : DealOk cs b) (hb0 : 0 < bound) (hb1 : bound < 1000000) (hn0 : 0 < n) (hn : n < 1000) (hm : many < 1000) : ∃ L, SomeOk n bound L ∧ L.length ≤ many + 1 ∧ ∃ cs' b', DealOk cs' b' ∧
    ev_law_some [.deal cs b, .val (.int n), .val (.int many), .val (.int bound)] = some (.own (.list (L.map uT)), [.deal cs' b', .no, .no, .no]) := by
  have f1 : Fits 1 := show 1 ≤ 16777216 by decide
  have f4 : Fits 4 := show 4 ≤ 16777216 by decide
  obtain ⟨a0, cs0, b0, r0, d0, h0⟩ := row_draw (n := n) (many := many) (s4 := .no) (s5 := .no) (s6 := .no) (s7 := .no) hd hb0 hb1 (by omega)
  have st1 : vLst (consO (asO (evP gTuple (consO (asO (vLc (Pf.iRng1 (oN 1)) (gN 8) (bTrue) (asO (callF [true, false] anyF (consO (oN 0) (consO (oN 3) (nilO))))) [8])) (nilO)))) (nilO)) (sE n many bound cs b .no .no .no .no .no) = some (.own (.list [uT a0]), sE n many bound cs0 b0 .no .no .no .no .no) :=
    vLst_of (consO_of (asO_of (evP_of (consO_of (asO_of h0 (by rfl)) (by rfl)) (by rfl) (by rfl)) (by rfl)) (by rfl)) (by rfl) (by exact f1)
  -- the changes of a row
  have inner : ∀ (ds : List PyData) (cs : List Int) (b : Int) (one : List Int) (s4 s5 s7 : Slot), DealOk cs b → Row n bound one → ∃ one' cs' b' s7', DealOk cs' b' ∧ Row n bound one' ∧
      forL (gN 7) (sPut 6 (asO (callF [true, false] anyF (consO (oN 0) (consO (oN 1) (nilO))))) (asO (callF [true, false] anyF (consO (oN 0) (consO (oN 3) (nilO)))))) ds (sE n many bound cs b s4 s5 (.own (uL one)) s7 .no) = some (.nx (sE n many bound cs' b' s4 s5 (.own (uL one')) s7' .no)) := by
    intro ds
    induction ds with
    | nil => intro cs b one s4 s5 s7 hd hr; exact ⟨one, cs, b, s7, hd, hr, rfl⟩
    | cons d ds ih =>
      intro cs b one s4 s5 s7 hd hr
      obtain ⟨r, cs1, b1, g1, g2, g3, g4⟩ := any_of hd hb0 hb1
      obtain ⟨i', cs2, b2, k1, k2, k3, k4⟩ := any_of (n := (n : Int)) g4 (by omega) (by omega)
      obtain ⟨i, rfl⟩ := toNat_of k2
      have hi : i < one.length := by rw [hr.1]; omega
      have hp : putD (uL one) (.int (i : Int)) (.int r) = some (uL (one.set i r)) := by
        show ((L2.ixN (one.map PyData.int).length (i : Int)).bind fun j => some (PyData.list ((one.map PyData.int).set j (.int r)))) = _
        rw [ixN_nat (by rw [List.length_map]; exact hi)]
        simp [uL, List.map_set]
      have hr' : Row n bound (one.set i r) := ⟨by rw [List.length_set]; exact hr.1, fun x m => by
        rcases List.mem_or_eq_of_mem_set m with z | z
        · exact hr.2 x z
        · rw [z]; exact ⟨g2, g3⟩⟩
      obtain ⟨one', cs', b', s7', q1, q2, q3⟩ := ih cs2 b2 (one.set i r) s4 s5 (.val d) k4 hr'
      refine ⟨one', cs', b', s7', q1, q2, ?_⟩
      rw [forL_nx (e1 := sE n many bound cs b s4 s5 (.own (uL one)) (.val d) .no) (e2 := sE n many bound cs2 b2 s4 s5 (.own (uL (one.set i r))) (.val d) .no) (by rfl) ?_, q3]
      exact sPut_of (i := 6) (e1 := sE n many bound cs1 b1 s4 s5 (.own (uL one)) (.val d) .no) (e2 := sE n many bound cs2 b2 s4 s5 (.own (uL one)) (.val d) .no) (e3 := sE n many bound cs2 b2 s4 s5 (.own (uL one)) (.val d) .no) (d' := uL (one.set i r)) (call_any g1 (.inr ⟨rfl, rfl⟩)) (call_any k1 (.inl ⟨rfl, rfl⟩)) (by rfl) (by rfl) (by rfl) (by exact hp) (by rfl)
  -- the turns
  have outer : ∀ (ds : List PyData) (cs : List Int) (b : Int) (L : List (List Int)) (s5 s6 s7 : Slot), DealOk cs b → SomeOk n bound L → L.length + ds.length ≤ many + 1 → ∃ L' cs' b' s5' s6' s7', DealOk cs' b' ∧ SomeOk n bound L' ∧ L'.length ≤ many + 1 ∧
      forL (gN 5) (sSeq (sSet 6 (evP gList (consO (asO (callB [true, false] ev_law_of (consO (oN 0) (consO (oN 4) (nilO))))) (nilO)))) (sSeq (sFor (Pf.iRng1 (asO (callB [true, false] ev_law_of (consO (oN 0) (consO (asO (vLst (consO (oC (.int 1)) (consO (oC (.int 1)) (consO (oC (.int 2)) (consO (oN 1) (nilO))))))) (nilO)))))) (gN 7) (sPut 6 (asO (callF [true, false] anyF (consO (oN 0) (consO (oN 1) (nilO))))) (asO (callF [true, false] anyF (consO (oN 0) (consO (oN 3) (nilO))))))) (sIf (bV (ev2 gNotIn (asO (evP gTuple (consO (oN 6) (nilO)))) (oN 4))) (sDrop (vApp 4 (asO (evP gTuple (consO (oN 6) (nilO)))))) (sNext)))) ds
        (sE n many bound cs b (.own (.list (L.map uT))) s5 s6 s7 .no) = some (.nx (sE n many bound cs' b' (.own (.list (L'.map uT))) s5' s6' s7' .no)) := by
    intro ds
    induction ds with
    | nil => intro cs b L s5 s6 s7 hd hL hl; exact ⟨L, cs, b, s5, s6, s7, hd, hL, by simpa using hl, rfl⟩
    | cons d ds ih =>
      intro cs b L s5 s6 s7 hd hL hl
      have hLl : L.length ≤ many + 1 := by simp at hl; omega
      -- one of those found
      obtain ⟨d1, m1, cs1, b1, g1, g2⟩ := of_of (ds := L.map uT) hd (by simpa using hL.1) (by rw [List.length_map]; omega)
      obtain ⟨one, mo, rfl⟩ := List.mem_map.mp m1
      have hsafe : (safe (.val (uT one)) && ([Slot.deal cs1 b1].all safe)) = true := by simp [safe, imm_tI]
      have t1 : sSet 6 (evP gList (consO (asO (callB [true, false] ev_law_of (consO (oN 0) (consO (oN 4) (nilO))))) (nilO))) (sE n many bound cs b (.own (.list (L.map uT))) (.val d) s6 s7 .no) = some (.nx (sE n many bound cs1 b1 (.own (.list (L.map uT))) (.val d) (.own (uL one)) s7 .no)) :=
        sSet_of (i := 6) (e := sE n many bound cs1 b1 (.own (.list (L.map uT))) (.val d) s6 s7 .no) (s := .own (uL one)) (evP_of (consO_of (asO_of (callB_of (by rfl) (by rfl) (by rfl) (by rfl) (by exact g1) (by exact hsafe) (by rfl)) (by rfl)) (by rfl)) (by rfl) (by rfl)) (by simp)
      -- how many changes
      obtain ⟨d2, m2, cs2, b2, k1, k2⟩ := of_of (ds := [.int 1, .int 1, .int 2, .int (n : Int)]) g2 (by simp) (show 4 < 1000000 by decide)
      have hk : ∃ k : Nat, d2 = .int (Int.ofNat k) ∧ k < 1000 := by
        simp at m2
        rcases m2 with e | e | e
        · exact ⟨1, e, by decide⟩
        · exact ⟨2, e, by decide⟩
        · exact ⟨n, e, hn⟩
      obtain ⟨k, rfl, hk⟩ := hk
      have hsafe2 : (safe (.val (.int (Int.ofNat k))) && ([Slot.deal cs2 b2].all safe)) = true := by simp [safe, imm]
      have t2 : Pf.iRng1 (asO (callB [true, false] ev_law_of (consO (oN 0) (consO (asO (vLst (consO (oC (.int 1)) (consO (oC (.int 1)) (consO (oC (.int 2)) (consO (oN 1) (nilO))))))) (nilO))))) (sE n many bound cs1 b1 (.own (.list (L.map uT))) (.val d) (.own (uL one)) s7 .no) = some (rngD 0 (Int.ofNat k).toNat, sE n many bound cs2 b2 (.own (.list (L.map uT))) (.val d) (.own (uL one)) s7 .no) :=
        iRng1_of (asO_of (callB_of (consO_of (by rfl) (consO_of (asO_of (vLst_of (by rfl) (by rfl) (by exact f4)) (by rfl)) (by rfl))) (by rfl) (by rfl) (by rfl) (by exact k1) (by exact hsafe2) (by rfl)) (by rfl)) (by rfl) (small_nat (by omega))
      obtain ⟨one', cs3, b3, s7', q1, q2, q3⟩ := inner (rngD 0 (Int.ofNat k).toNat) cs2 b2 one (.own (.list (L.map uT))) (.val d) s7 k2 (hL.2.1 one mo)
      have hc : (bV (ev2 gNotIn (asO (evP gTuple (consO (oN 6) (nilO)))) (oN 4))) (sE n many bound cs3 b3 (.own (.list (L.map uT))) (.val d) (.own (uL one')) s7' .no) = some (!decide (one' ∈ L), sE n many bound cs3 b3 (.own (.list (L.map uT))) (.val d) (.own (uL one')) s7' .no) :=
        bV_of (evP_of (consO_of (asO_of (evP_of (by rfl) (by rfl) (by rfl)) (by rfl)) (by rfl)) (by rfl) (by exact notIn_list L one'))
      by_cases hin : one' ∈ L
      · rw [decide_eq_true hin] at hc
        obtain ⟨L', cs', b', s5', s6', s7'', w1, w2, w3, w4⟩ := ih cs3 b3 L (.val d) (.own (uL one')) s7' q1 hL (by simp at hl; omega)
        refine ⟨L', cs', b', s5', s6', s7'', w1, w2, w3, ?_⟩
        rw [forL_nx (e1 := sE n many bound cs b (.own (.list (L.map uT))) (.val d) s6 s7 .no) (e2 := sE n many bound cs3 b3 (.own (.list (L.map uT))) (.val d) (.own (uL one')) s7' .no) (by rfl) ?_, w4]
        exact (sSeq_nx t1).trans ((sSeq_nx ((sFor_of t2).trans q3)).trans ((sIf_f hc).trans (by rfl)))
      · rw [decide_eq_false hin] at hc
        have hL' : SomeOk n bound (L ++ [one']) := ⟨by simp, fun a m => by
          rcases List.mem_append.mp m with z | z
          · exact hL.2.1 a z
          · rw [List.mem_singleton.mp z]; exact q2, List.nodup_append.mpr ⟨hL.2.2, by simp, fun a ha c hc e => by simp at hc; subst hc; exact hin (e ▸ ha)⟩⟩
        obtain ⟨L', cs', b', s5', s6', s7'', w1, w2, w3, w4⟩ := ih cs3 b3 (L ++ [one']) (.val d) (.own (uL one')) s7' q1 hL' (by simp at hl ⊢; omega)
        refine ⟨L', cs', b', s5', s6', s7'', w1, w2, w3, ?_⟩
        have hf : Fits ((L.map uT).length + 1) := by rw [List.length_map]; show _ ≤ 16777216; omega
        have ta : sDrop (vApp 4 (asO (evP gTuple (consO (oN 6) (nilO))))) (sE n many bound cs3 b3 (.own (.list (L.map uT))) (.val d) (.own (uL one')) s7' .no) = some (.nx (sE n many bound cs3 b3 (.own (.list ((L ++ [one']).map uT))) (.val d) (.own (uL one')) s7' .no)) := by
          rw [List.map_append]
          exact sDrop_of (vApp_of (i := 4) (e2 := sE n many bound cs3 b3 (.own (.list (L.map uT))) (.val d) (.own (uL one')) s7' .no) (ds := L.map uT) (d := uT one') (by rfl) (asO_of (evP_of (by rfl) (by rfl) (by rfl)) (by rfl)) (by rfl) (by rfl) (by exact hf))
        rw [forL_nx (e1 := sE n many bound cs b (.own (.list (L.map uT))) (.val d) s6 s7 .no) (e2 := sE n many bound cs3 b3 (.own (.list ((L ++ [one']).map uT))) (.val d) (.own (uL one')) s7' .no) (by rfl) ?_, w4]
        exact (sSeq_nx t1).trans ((sSeq_nx ((sFor_of t2).trans q3)).trans ((sIf_t hc).trans ta))
  have hI : Pf.iRng1 (oN 2) (sE n many bound cs0 b0 (.own (.list [uT a0])) .no .no .no .no) = some (rngD 0 (Int.ofNat many).toNat, sE n many bound cs0 b0 (.own (.list [uT a0])) .no .no .no .no) := iRng1_of (by rfl) (by rfl) (small_nat (by omega))
  obtain ⟨L', cs', b', s5', s6', s7', w1, w2, w3, w4⟩ := outer (rngD 0 (Int.ofNat many).toNat) cs0 b0 [a0] .no .no .no d0 ⟨by simp, by simpa using r0, by simp⟩ (by rw [rngD_length]; simp; omega)
  refine ⟨L', w2, w3, cs', b', w1, ?_⟩
  exact defE_rt (sE n many bound cs b .no .no .no .no .no) (by rfl) ((sSeq_nx (e := sE n many bound cs0 b0 (.own (.list [uT a0])) .no .no .no .no) (sSet_of (i := 4) (e := sE n many bound cs0 b0 .no .no .no .no .no) st1 (by simp))).trans ((sSeq_nx ((sFor_of hI).trans w4)).trans (by rfl))) (by rfl)
end
end Pf
/-! PlK: a polynomial drawn. -/
namespace Pf
open PySem PySem.Spec
def PolyF (n : Nat) (F : Asc) : Prop := (F.map (·.1)).Nodup ∧ ∀ t ∈ F, Row n 20 t.1 ∧ -200 ≤ t.2 ∧ t.2 ≤ 200
theorem mem_putF {F : Asc} {k : List Int} {v : Int} {t : List Int × Int} (h : t ∈ putF F k v) : t ∈ F ∨ t = (k, v) := by
  unfold putF at h
  split at h
  · obtain ⟨u, m, e⟩ := List.mem_map.mp h
    split at e
    · rename_i e2
      exact .inr (by rw [← e, e2])
    · exact .inl (e ▸ m)
  · rcases List.mem_append.mp h with z | z
    · exact .inl z
    · exact .inr (List.mem_singleton.mp z)
theorem poly_put {n : Nat} {F : Asc} {k : List Int} {v : Int} (h : PolyF n F) (hk : Row n 20 k) (h1 : -200 ≤ v) (h2 : v ≤ 200) : PolyF n (putF F k v) :=
  ⟨nodup_putF h.1, fun t m => by
    rcases mem_putF m with z | z
    · exact h.2 t z
    · rw [z]; exact ⟨hk, h1, h2⟩⟩
theorem poly_of {cs : List Int} {b p : Int} {n many : Nat} (hd : DealOk cs b) (hp : 0 ≤ p) (hp2 : p ≤ 101) (hn0 : 0 < n) (hn : n < 1000) (hm : many < 900) : ∃ F, PolyF n F ∧ F.length ≤ many + 1 ∧ ∃ cs' b', DealOk cs' b' ∧
    ev_law_polynomial [.deal cs b, .val (.int p), .val (.int n), .val (.int many), .val (.int 20)] = some (.val (pD (gath p F)), [.deal cs' b', .no, .no, .no, .no]) := by
  obtain ⟨L, hL, hLl, cs1, b1, d1, h1⟩ := some_of (bound := 20) (many := many) hd (by decide) (by decide) hn0 hn (by omega)
  have loop : ∀ (l : List (List Int)) (cs : List Int) (b : Int) (F : Asc) (s6 : Slot), DealOk cs b → PolyF n F → (∀ a ∈ l, Row n 20 a) → F.length + l.length ≤ many + 1 → ∃ F' cs' b' s6', DealOk cs' b' ∧ PolyF n F' ∧ F'.length ≤ many + 1 ∧
      forL (gN 6) (sPut 5 (oN 6) (asO (vIte (bV (ev2 gEq (oN 1) (oC (.int 0)))) (ev2 Pf.gSub (asO (callF [true, false] anyF (consO (oN 0) (consO (oC (.int 19)) (nilO))))) (oC (.int 9))) (callF [true, false] anyF (consO (oN 0) (consO (oN 1) (nilO))))))) (l.map uT) [.deal cs b, .val (.int p), .val (.int n), .val (.int many), .val (.int 20), .own (fD F), s6] =
        some (.nx [.deal cs' b', .val (.int p), .val (.int n), .val (.int many), .val (.int 20), .own (fD F'), s6']) := by
    intro l
    induction l with
    | nil => intro cs b F s6 hd hF _ hl; exact ⟨F, cs, b, s6, hd, hF, by simpa using hl, rfl⟩
    | cons a l ih =>
      intro cs b F s6 hd hF hr hl
      have hc : (bV (ev2 gEq (oN 1) (oC (.int 0)))) [.deal cs b, .val (.int p), .val (.int n), .val (.int many), .val (.int 20), .own (fD F), .val (uT a)] = some (decide (p = 0), [.deal cs b, .val (.int p), .val (.int n), .val (.int many), .val (.int 20), .own (fD F), .val (uT a)]) := bV_of (evP_of (by rfl) (by rfl) (by exact gEq_int))
      have hval : ∃ v cs1 b1, DealOk cs1 b1 ∧ -200 ≤ v ∧ v ≤ 200 ∧ asO (vIte (bV (ev2 gEq (oN 1) (oC (.int 0)))) (ev2 Pf.gSub (asO (callF [true, false] anyF (consO (oN 0) (consO (oC (.int 19)) (nilO))))) (oC (.int 9))) (callF [true, false] anyF (consO (oN 0) (consO (oN 1) (nilO))))) [.deal cs b, .val (.int p), .val (.int n), .val (.int many), .val (.int 20), .own (fD F), .val (uT a)] =
          some (.dat (.int v), [.deal cs1 b1, .val (.int p), .val (.int n), .val (.int many), .val (.int 20), .own (fD F), .val (uT a)]) := by
        by_cases h0 : p = 0
        · rw [decide_eq_true h0] at hc
          obtain ⟨r, cs1, b1, g1, g2, g3, g4⟩ := any_of (n := 19) hd (by decide) (by decide)
          exact ⟨r - 9, cs1, b1, g4, by omega, by omega, asO_of ((vIte_t hc).trans (evP_of (consO_of (asO_of (callF_of (by rfl) (by rfl) (by rfl) (by rfl) (by rfl) (by exact g1) (by rfl)) (by rfl)) (by rfl)) (by rfl) (by rfl))) (by rfl)⟩
        · rw [decide_eq_false h0] at hc
          obtain ⟨r, cs1, b1, g1, g2, g3, g4⟩ := any_of (n := p) hd (by omega) (by omega)
          exact ⟨r, cs1, b1, g4, by omega, by omega, asO_of ((vIte_f hc).trans (callF_of (by rfl) (by rfl) (by rfl) (by rfl) (by rfl) (by exact g1) (by rfl))) (by rfl)⟩
      obtain ⟨v, cs1, b1, k1, k2, k3, k4⟩ := hval
      have hput : putD (fD F) (uT a) (.int v) = some (fD (putF F a v)) := by
        refine (putD_dict (oneKind_fD F a) (by rw [List.length_map]; show _ ≤ 16777216; simp at hl; omega)).trans ?_
        rw [dput_fD]
        rfl
      have hlp := len_putF F a v
      obtain ⟨F', cs', b', s6', w1, w2, w3, w4⟩ := ih cs1 b1 (putF F a v) (.val (uT a)) k1 (poly_put hF (hr a List.mem_cons_self) k2 k3) (fun c m => hr c (List.mem_cons_of_mem _ m)) (by simp at hl; omega)
      refine ⟨F', cs', b', s6', w1, w2, w3, ?_⟩
      rw [List.map_cons, forL_nx (e1 := [.deal cs b, .val (.int p), .val (.int n), .val (.int many), .val (.int 20), .own (fD F), .val (uT a)]) (e2 := [.deal cs1 b1, .val (.int p), .val (.int n), .val (.int many), .val (.int 20), .own (fD (putF F a v)), .val (uT a)]) (by rfl) ?_, w4]
      exact sPut_of (i := 5) (e3 := [.deal cs1 b1, .val (.int p), .val (.int n), .val (.int many), .val (.int 20), .own (fD F), .val (uT a)]) (d' := fD (putF F a v)) k4 (by rfl) (by rfl) (by rfl) (by rfl) (by exact hput) (by rfl)
  obtain ⟨F, cs', b', s6', w1, w2, w3, w4⟩ := loop L cs1 b1 [] .no d1 ⟨by simp, by simp⟩ hL.2.1 (by simpa using hLl)
  refine ⟨F, w2, w3, cs', b', w1, ?_⟩
  have hk : ∀ k ∈ F.map (·.1), k ≠ [] := fun k m e => by
    obtain ⟨t, mt, rfl⟩ := List.mem_map.mp m
    have := (w2.2 t mt).1.1
    rw [e] at this
    simp at this
    omega
  have ht := tidy_of (p := p) (F := F) hp hk (by show _ ≤ 16777216; omega)
  exact defE_rt [.deal cs b, .val (.int p), .val (.int n), .val (.int many), .val (.int 20), .no, .no] (by rfl) ((sSeq_nx (e := [.deal cs b, .val (.int p), .val (.int n), .val (.int many), .val (.int 20), .own (fD []), .no]) (by rfl)).trans
    ((sSeq_nx ((sFor_of (ds := L.map uT) (e := [.deal cs1 b1, .val (.int p), .val (.int n), .val (.int many), .val (.int 20), .own (fD []), .no]) (iSeq_of (asO_of (callF_of (by rfl) (by rfl) (by rfl) (by rfl) (by rfl) (by exact h1) (by rfl)) (by rfl)) (by rfl) (by rfl))).trans w4)).trans
      (sRet_of (callF_of (by rfl) (by rfl) (by rfl) (by rfl) (by rfl) (by exact ht) (by rfl))))) (by rfl)
/-! ### is_order of numbers -/
theorem is_order_ints {os : List Nat} {n : Nat} (hl : os.length = n) (hr : ∀ o ∈ os, o < n) (hnd : ¬ os.Nodup) (hn : n ≤ 16777216) : ev_is_order [.val (.int n), .val (uT (nI os))] = some (.val (.bool false), [.no, .no]) := by
  unfold ev_is_order bd_is_order
  have hlen : gLen [uT (nI os)] = some (.val (.int n)) := by
    show some (Slot.val (PyData.int ((nI os).map PyData.int).length)) = _
    simp [nI, hl]
  have hc1 : (bV (ev2 gNe (asO (evP gLen (consO (oN 1) (nilO)))) (oN 0))) [.val (.int n), .val (uT (nI os)), .no] = some (false, [.val (.int n), .val (uT (nI os)), .no]) :=
    bV_of (evP_of (consO_of (asO_of (evP_of (by rfl) (by rfl) (by exact hlen)) (by rfl)) (by rfl)) (by rfl) (gNe_int.trans (by simp)))
  have hall : ((nI os).map PyData.int).all (isIx n) = true := by
    rw [List.all_eq_true]
    intro d m
    simp [nI] at m
    obtain ⟨o, mo, rfl⟩ := m
    have := hr o mo
    simp [isIx]
    omega
  have hc2 : bNot (bV (evP gAll (consO (asO (vLc (iSeq (oN 1)) (gN 2) (bTrue) (asO (callF [false, false] ev_is_index (consO (oN 2) (consO (oN 0) (nilO))))) [2])) (nilO)))) [.val (.int n), .val (uT (nI os)), .no] = some (!((nI os).map PyData.int).all (isIx n), [.val (.int n), .val (uT (nI os)), .no]) := by
    refine bNot_of (bV_of (evP_of (consO_of (asO_of (vLc_same (ds := (nI os).map .int) (out := ((nI os).map PyData.int).map fun d => .bool (isIx n d)) [.val (.int n), .val (uT (nI os)), .no] (by rfl) (lcF_all (f := fun d => .bool (isIx n d)) fun d m => ?_) ?_ (by rfl)) (by rfl)) (by rfl)) (by rfl) (by exact gAll_map _ _)))
    · have hd : ∀ kvs, d ≠ .dict kvs := fun kvs e => by
        subst e
        simp at m
      have hi := is_index_of (n := n) hd
      exact lcT_of (by rfl) (by rfl) (asO_of (callF_of (by rfl) (by rfl) (by rfl) (by rfl) (by rfl) (by exact hi) (by rfl)) (by rfl)) (by rfl) (by rfl)
    · simp [nI, hl]
      exact hn
  rw [hall] at hc2
  have hs : gSorted [uT (nI os)] = some (.own (uL ((nI os).mergeSort fun a b => !decide (b < a)))) := by
    have e : gSorted [uT (nI os)] = given (SortOk ((nI os).map .int)) (some (.own (.list (sortD ((nI os).map .int))))) := rfl
    rw [e, given_pos (sortOk_ints _), sort_ints]
    rfl
  have hne : ¬ ((nI os).mergeSort fun a b => !decide (b < a)) = (List.range n).map Int.ofNat := fun e => by
    have hp := List.mergeSort_perm (nI os) fun a b => !decide (b < a)
    rw [e] at hp
    have h1 : ((List.range n).map Int.ofNat).Nodup := by
      refine List.Pairwise.map _ (fun a b h e => h ?_) List.nodup_range
      exact Int.ofNat.inj e
    have h2 : (nI os).Nodup := hp.nodup_iff.mp h1
    exact hnd ((List.pairwise_map.mp h2).imp fun h e => h (by rw [e]))
  have hq : gEq [uL ((nI os).mergeSort fun a b => !decide (b < a)), uL ((List.range n).map Int.ofNat)] = some (.val (.bool false)) := by
    refine (gEq_of (sh_lI _) (sh_lI _)).trans ?_
    rw [eqv_lI, decide_eq_false hne]
  have ho : L2.RgOk 0 (n : Int) := L2.RgOk.of_le (by omega) (by omega) (by omega) (by omega)
  have hv : vLRg true (oN 0) [.val (.int n), .val (uT (nI os)), .no] = some (.own (uL ((List.range n).map Int.ofNat)), [.val (.int n), .val (uT (nI os)), .no]) := by
    have hr : rngD 0 (n : Int).toNat = ((List.range n).map Int.ofNat).map .int := by rw [List.map_map]; exact rng_nat n
    rw [show uL ((List.range n).map Int.ofNat) = .list (rngD 0 (n : Int).toNat) by rw [hr]; rfl]
    exact lRg_of (own := true) (by rfl) (by rfl) ho
  exact defE_rt [.val (.int n), .val (uT (nI os)), .no] (by rfl) ((sSeq_nx (e := [.val (.int n), .val (uT (nI os)), .no]) ((sIf_f (e := [.val (.int n), .val (uT (nI os)), .no]) ((bOr_f (e := [.val (.int n), .val (uT (nI os)), .no]) (by rfl)).trans ((bOr_f hc1).trans hc2))).trans (by rfl))).trans
    (sRet_of (evP_of (consO_of (asO_of (evP_of (by rfl) (by rfl) (by exact hs)) (by rfl)) (consO_of (asO_of hv (by rfl)) (by rfl))) (by rfl) (by exact hq)))) (by rfl)
end Pf
/-! PlL: values near an order. -/
namespace Pf
open PySem PySem.Spec
def IsO (n : Nat) (v : PyData) (due : Bool) : Prop := ev_is_order [.val (.int n), .val v] = some (.val (.bool due), [.no, .no])
def pairD (t : PyData × Bool) : PyData := .tuple [t.1, .bool t.2]
section
variable {n : Nat} {os : List Nat}
abbrev oDs (os : List Nat) : List PyData := (nI os).map .int
theorem oDs_len (os : List Nat) : (oDs os).length = os.length := by simp [oDs, nI]
theorem oDs_noDct (os : List Nat) : ∀ d ∈ oDs os, noDct d = true := fun d m => by
  obtain ⟨i, _, rfl⟩ := List.mem_map.mp m
  rfl
theorem isO_tup {l : List PyData} (h1 : ∀ d ∈ l, noDct d = true) (h2 : l.length ≤ 16777216) (h3 : (l.length : Int) ≠ n ∨ ∃ x ∈ l, isIx n x = false) : IsO n (.tuple l) false := by
  refine is_order_no rfl (fun l' e => by cases e; exact ⟨List.all_eq_true.mpr h1, h2⟩) ?_
  show (decide ((l.length : Int) = n) && l.all (isIx n)) = false
  rcases h3 with h3 | ⟨x, m, hx⟩
  · rw [decide_eq_false h3, Bool.false_and]
  · have : l.all (isIx n) = false := by
      rw [Bool.eq_false_iff]
      intro e
      have := List.all_eq_true.mp e x m
      rw [hx] at this
      cases this
    rw [this, Bool.and_false]
theorem isO_flat {d : PyData} (h1 : noDct d = true) (h2 : ∀ l, d ≠ .tuple l) : IsO n d false := by
  refine is_order_no h1 (fun l e => absurd e (h2 l)) ?_
  cases d <;> first | rfl | exact absurd rfl (h2 _)
abbrev repL (os : List Nat) (i : Nat) (x : PyData) : List PyData := (oDs os).take i ++ [x] ++ (oDs os).drop (i + 1)
theorem rep_no {i : Nat} {x : PyData} (hl : os.length = n) (hn : n < 1000) (hx : noDct x = true) (hi : isIx n x = false) : IsO n (PyData.tuple (repL os i x)) false := by
  refine isO_tup (fun d m => ?_) ?_ (.inr ⟨x, by simp [repL], hi⟩)
  · rcases List.mem_append.mp m with m | m
    · rcases List.mem_append.mp m with m | m
      · exact oDs_noDct os d (List.mem_of_mem_take m)
      · rw [List.mem_singleton.mp m]; exact hx
    · exact oDs_noDct os d (List.mem_of_mem_drop m)
  · simp only [repL, List.length_append, List.length_take, List.length_drop, oDs_len, List.length_singleton]
    omega
theorem cut_take (l : List PyData) (i : Nat) : cutD l none (some (i : Int)) = l.take i := by
  unfold cutD
  rw [HT.sIx_none, HT.sIx_nat, List.drop_zero, Nat.sub_zero]
  rw [List.take_eq_take_iff]
  omega
theorem cut_drop (l : List PyData) (i : Nat) : cutD l (some ((i : Int) + 1)) none = l.drop (i + 1) := by
  unfold cutD
  rw [HT.sIx_none, show ((i : Int) + 1) = ((i + 1 : Nat) : Int) by omega, HT.sIx_nat]
  by_cases h : i + 1 ≤ l.length
  · rw [Nat.min_eq_left h]
    exact List.take_of_length_le (by simp)
  · rw [Nat.min_eq_right (by omega)]
    simp
    omega
theorem gAdd_tup {a b : List PyData} (h : Fits (a.length + b.length)) : gAdd [.tuple a, .tuple b] = some (.val (.tuple (a ++ b))) := given_pos h
noncomputable abbrev repV (q : Nat) (mid : EvO) : EvV := ev2 gAdd (asO (ev2 gAdd (asO (vCut (oN 2) none (some (oN q)))) (asO (vTup (consO mid nilO))))) (asO (vCut (oN 2) (some (asO (ev2 gAdd (oN q) (oC (.int 1))))) none))
abbrev nE (cs : List Int) (b : Int) (n : Nat) (os : List Nat) (at' other : Int) (s5 s6 s7 : Slot) : Env1 := [.deal cs b, .val (.int n), .val (uT (nI os)), .val (.int at'), .val (.int other), s5, s6, s7]
theorem cut_of {ra : EvO} {rl rh : Option EvO} {env e1 e2 e3 : Env1} {o : Opd} {l h : Option Int} {d : PyData} {s : Slot} (h1 : ra env = some (o, e1)) (h2 : optI rl e1 = some (l, e2)) (h3 : optI rh e2 = some (h, e3)) (h4 : look e3 o = some d) (h5 : gCut l h d = some s) : vCut ra rl rh env = some (s, e3) := by
  unfold vCut
  rw [h1]
  simp only [Option.bind_some]
  rw [h2]
  simp only [Option.bind_some]
  rw [h3]
  simp only [Option.bind_some]
  rw [h4]
  simp only [Option.bind_some]
  rw [h5]
  rfl
theorem repV_of {cs : List Int} {b at' other : Int} {s5 s6 s7 : Slot} {q i : Nat} {mid : EvO} {o : Opd} {x : PyData} (hl : os.length = n) (hn : n < 1000) (hq : q = 3 ∧ at' = i ∨ q = 7 ∧ s7 = .val (.int i)) (hm : mid (nE cs b n os at' other s5 s6 s7) = some (o, nE cs b n os at' other s5 s6 s7)) (hx : frzO (nE cs b n os at' other s5 s6 s7) o = some (x, nE cs b n os at' other s5 s6 s7)) :
    repV q mid (nE cs b n os at' other s5 s6 s7) = some (.val (PyData.tuple (repL os i x)), nE cs b n os at' other s5 s6 s7) := by
  have f1 : Fits 1 := show 1 ≤ 16777216 by decide
  have hT : gCut none (some (i : Int)) (uT (nI os)) = some (.val (.tuple ((oDs os).take i))) := by
    rw [← cut_take]
    rfl
  have hD : gCut (some ((i : Int) + 1)) none (uT (nI os)) = some (.val (.tuple ((oDs os).drop (i + 1)))) := by
    rw [← cut_drop]
    rfl
  have ha1 : gAdd [.tuple ((oDs os).take i), .tuple [x]] = some (.val (.tuple ((oDs os).take i ++ [x]))) := gAdd_tup (by
    rw [List.length_take, oDs_len]
    show _ ≤ 16777216
    simp
    omega)
  have ha2 : gAdd [.tuple ((oDs os).take i ++ [x]), .tuple ((oDs os).drop (i + 1))] = some (.val (PyData.tuple (repL os i x))) := gAdd_tup (by
    rw [List.length_append, List.length_take, List.length_drop, oDs_len]
    show _ ≤ 16777216
    simp
    omega)
  have hf : frzOs (nE cs b n os at' other s5 s6 s7) [o] = some ([x], nE cs b n os at' other s5 s6 s7) := by
    unfold frzOs
    rw [hx]
    rfl
  have hc1 : vCut (oN 2) none (some (oN q)) (nE cs b n os at' other s5 s6 s7) = some (.val (.tuple ((oDs os).take i)), nE cs b n os at' other s5 s6 s7) := by
    rcases hq with ⟨rfl, rfl⟩ | ⟨rfl, rfl⟩
    · exact cut_of (by rfl) (by rfl) (by rfl) (by rfl) (by exact hT)
    · exact cut_of (by rfl) (by rfl) (by rfl) (by rfl) (by exact hT)
  have hc2 : vCut (oN 2) (some (asO (ev2 gAdd (oN q) (oC (.int 1))))) none (nE cs b n os at' other s5 s6 s7) = some (.val (.tuple ((oDs os).drop (i + 1))), nE cs b n os at' other s5 s6 s7) := by
    rcases hq with ⟨rfl, rfl⟩ | ⟨rfl, rfl⟩
    · exact cut_of (by rfl) (by rfl) (by rfl) (by rfl) (by exact hD)
    · exact cut_of (by rfl) (by rfl) (by rfl) (by rfl) (by exact hD)
  exact evP_of (consO_of (asO_of (evP_of (consO_of (asO_of hc1 (by rfl)) (consO_of (asO_of (vTup_of (consO_of hm (by rfl : nilO _ = _)) hf f1) (by rfl)) (by rfl : nilO _ = _))) (by rfl) ha1) (by rfl)) (consO_of (asO_of hc2 (by rfl)) (by rfl : nilO _ = _))) (by rfl) ha2
/-- one more pair -/
theorem app_of {cs : List Int} {b at' other : Int} {s6 s7 : Slot} {q i : Nat} {mid : EvO} {o : Opd} {x : PyData} {ps : List (PyData × Bool)} (hl : os.length = n) (hn : n < 1000) (hps : ps.length < 100000) (hq : q = 3 ∧ at' = i ∨ q = 7 ∧ s7 = .val (.int i)) (hm : mid (nE cs b n os at' other (.own (.list (ps.map pairD))) s6 s7) = some (o, nE cs b n os at' other (.own (.list (ps.map pairD))) s6 s7)) (hx : frzO (nE cs b n os at' other (.own (.list (ps.map pairD))) s6 s7) o = some (x, nE cs b n os at' other (.own (.list (ps.map pairD))) s6 s7)) :
    sDrop (vApp 5 (asO (vTup (consO (asO (repV q mid)) (consO (oC (.bool false)) (nilO)))))) (nE cs b n os at' other (.own (.list (ps.map pairD))) s6 s7) = some (.nx (nE cs b n os at' other (.own (.list ((ps ++ [(PyData.tuple (repL os i x), false)]).map pairD))) s6 s7)) := by
  have f2 : Fits 2 := show 2 ≤ 16777216 by decide
  have hr := repV_of (b := b) hl hn hq hm hx
  have hf : Fits ((ps.map pairD).length + 1) := by rw [List.length_map]; show _ ≤ 16777216; omega
  rw [List.map_append]
  exact sDrop_of (vApp_of (i := 5) (e2 := nE cs b n os at' other (.own (.list (ps.map pairD))) s6 s7) (ds := ps.map pairD) (d := pairD (PyData.tuple (repL os i x), false)) (by rfl) (asO_of (vTup_of (consO_of (asO_of hr (by rfl)) (by rfl)) (by rfl) (by exact f2)) (by rfl)) (by rfl) (by rfl) (by exact hf))
def AllO (n : Nat) (ps : List (PyData × Bool)) : Prop := ∀ t ∈ ps, IsO n t.1 t.2
theorem AllO.add {ps : List (PyData × Bool)} {t : PyData × Bool} (h : AllO n ps) (ht : IsO n t.1 t.2) : AllO n (ps ++ [t]) := fun u m => by
  rcases List.mem_append.mp m with z | z
  · exact h u z
  · rw [List.mem_singleton.mp z]; exact ht
theorem set_repL (os : List Nat) {i j : Nat} (hi : i < os.length) (hj : j < os.length) : repL os i (.int (Int.ofNat os[j])) = oDs (os.set i os[j]) := by
  unfold repL oDs nI
  rw [List.map_map, List.map_map, ← List.map_take, ← List.map_drop, List.set_eq_take_append_cons_drop, if_pos hi]
  simp
theorem near_of {cs : List Int} {b : Int} (hd : DealOk cs b) (hp : os.Perm (List.range n)) (hn0 : 0 < n) (hn : n < 1000) : ∃ ps, AllO n ps ∧ ∃ cs' b', DealOk cs' b' ∧
    ev_law_near_orders [.deal cs b, .val (.int n), .val (uT (nI os))] = some (.own (.list (ps.map pairD)), [.deal cs' b', .no, .no]) := by
  have hl : os.length = n := by rw [hp.length_eq, List.length_range]
  have hrng : ∀ o ∈ os, o < n := fun o m => List.mem_range.mp (hp.mem_iff.mp m)
  have f2 : Fits 2 := show 2 ≤ 16777216 by decide
  have f1 : Fits 1 := show 1 ≤ 16777216 by decide
  have f8 : Fits 8 := show 8 ≤ 16777216 by decide
  have f5 : Fits 5 := show 5 ≤ 16777216 by decide
  obtain ⟨r1, cs1, b1, g1, g2, g3, d1⟩ := any_of (n := (n : Int)) hd (by omega) (by omega)
  obtain ⟨r2, cs2, b2, k1, k2, k3, d2⟩ := any_of (n := (n : Int)) d1 (by omega) (by omega)
  obtain ⟨i, rfl⟩ := toNat_of g2
  obtain ⟨j, rfl⟩ := toNat_of k2
  have hi : i < os.length := by omega
  have hj : j < os.length := by omega
  have s1 : sPar 3 4 (callF [true, false] anyF (consO (oN 0) (consO (oN 1) (nilO)))) (callF [true, false] anyF (consO (oN 0) (consO (oN 1) (nilO)))) [.deal cs b, .val (.int n), .val (uT (nI os)), .no, .no, .no, .no, .no] = some (.nx (nE cs2 b2 n os i j .no .no .no)) :=
    sPar_of (i := 3) (j := 4) (e1 := [.deal cs1 b1, .val (.int n), .val (uT (nI os)), .no, .no, .no, .no, .no]) (e2 := [.deal cs2 b2, .val (.int n), .val (uT (nI os)), .no, .no, .no, .no, .no]) (s := .val (.int i)) (s' := .val (.int j)) (callF_of (by rfl) (by rfl) (by rfl) (by rfl) (by rfl) (by exact g1) (by rfl)) (callF_of (by rfl) (by rfl) (by rfl) (by rfl) (by rfl) (by exact k1) (by rfl)) (by simp)
  -- the eight
  let ps8 : List (PyData × Bool) := [(uT (nI os), true), (.list (oDs os), false), (.tuple (oDs os ++ [.int n]), false), (.tuple (cutD (oDs os) none (some (-1))), false), (.tuple (oDs os).reverse, true), (.none, false), (.int n, false), (.str (Str.ofString ""), false)]
  have hcl : (cutD (oDs os) none (some (-1))).length = n - 1 := by
    unfold cutD
    rw [HT.sIx_none, List.drop_zero, Nat.sub_zero, List.length_take, oDs_len]
    show min ((-1 + (os.length : Int)).toNat) os.length = n - 1
    omega
  have all8 : AllO n ps8 := by
    intro t m
    simp only [ps8, List.mem_cons, List.not_mem_nil, or_false] at m
    rcases m with rfl | rfl | rfl | rfl | rfl | rfl | rfl | rfl
    · exact is_order_yes hp (by omega)
    · exact isO_flat rfl (fun _ e => nomatch e)
    · refine isO_tup (fun d m => ?_) (by rw [List.length_append, oDs_len, hl]; simp; omega) (.inl (by rw [List.length_append, oDs_len, hl]; simp; omega))
      rcases List.mem_append.mp m with z | z
      · exact oDs_noDct os d z
      · rw [List.mem_singleton.mp z]; rfl
    · refine isO_tup (fun d m => ?_) (by rw [hcl]; omega) (.inl (by rw [hcl]; omega))
      exact oDs_noDct os d (List.mem_of_mem_drop (List.mem_of_mem_take m))
    · have e : (PyData.tuple (oDs os).reverse) = uT (nI os.reverse) := by simp [uT, oDs, nI]
      show IsO n (.tuple (oDs os).reverse) true
      rw [e]
      exact is_order_yes ((List.reverse_perm os).trans hp) (by omega)
    · exact isO_flat rfl (fun _ e => nomatch e)
    · exact isO_flat rfl (fun _ e => nomatch e)
    · exact isO_flat rfl (fun _ e => nomatch e)
  have ha8 : gAdd [uT (nI os), .tuple [.int n]] = some (.val (.tuple (oDs os ++ [.int n]))) := gAdd_tup (by
    show ((nI os).map PyData.int).length + 1 ≤ 16777216
    simp [nI, hl]
    omega)
  have s2 : sSet 5 (vLst (consO (asO (vTup (consO (oN 2) (consO (oC (.bool true)) (nilO))))) (consO (asO (vTup (consO (asO (evP gList (consO (oN 2) (nilO)))) (consO (oC (.bool false)) (nilO))))) (consO (asO (vTup (consO (asO (ev2 gAdd (oN 2) (asO (vTup (consO (oN 1) (nilO)))))) (consO (oC (.bool false)) (nilO))))) (consO (asO (vTup (consO (asO (vCut (oN 2) none (some (asO (ev1 gNeg (oC (.int 1))))))) (consO (oC (.bool false)) (nilO))))) (consO (asO (vTup (consO (asO (vRev (oN 2))) (consO (oC (.bool true)) (nilO))))) (consO (asO (vTup (consO (oC .none) (consO (oC (.bool false)) (nilO))))) (consO (asO (vTup (consO (oN 1) (consO (oC (.bool false)) (nilO))))) (consO (asO (vTup (consO (oC (.str (Str.ofString ""))) (consO (oC (.bool false)) (nilO))))) (nilO)))))))))) (nE cs2 b2 n os i j .no .no .no) =
      some (.nx (nE cs2 b2 n os i j (.own (.list (ps8.map pairD))) .no .no)) := by
    refine sSet_of (i := 5) (e := nE cs2 b2 n os i j .no .no .no) (s := .own (.list (ps8.map pairD))) (vLst_of (consO_of (asO_of (vTup_of (by rfl) (by rfl) (by exact f2)) (by rfl)) (consO_of (asO_of (vTup_of (by rfl) (by rfl) (by exact f2)) (by rfl)) (consO_of (asO_of (vTup_of (consO_of (asO_of (evP_of (consO_of (by rfl) (consO_of (asO_of (vTup_of (by rfl) (by rfl) (by exact f1)) (by rfl)) (by rfl))) (by rfl) (by exact ha8)) (by rfl)) (by rfl)) (by rfl) (by exact f2)) (by rfl)) (consO_of (asO_of (vTup_of (by rfl) (by rfl) (by exact f2)) (by rfl)) (consO_of (asO_of (vTup_of (by rfl) (by rfl) (by exact f2)) (by rfl)) (consO_of (asO_of (vTup_of (by rfl) (by rfl) (by exact f2)) (by rfl)) (consO_of (asO_of (vTup_of (by rfl) (by rfl) (by exact f2)) (by rfl)) (consO_of (asO_of (vTup_of (by rfl) (by rfl) (by exact f2)) (by rfl)) (by rfl))))))))) (by rfl) (by exact f8)) (by simp)
  -- the five in between
  have five : ∀ (xs : List PyData) (ps : List (PyData × Bool)) (s6 : Slot), (∀ x ∈ xs, noDct x = true ∧ isIx n x = false) → AllO n ps → ps.length + xs.length < 50000 → ∃ ps' s6', AllO n ps' ∧ ps'.length = ps.length + xs.length ∧
      forL (gN 6) (sDrop (vApp 5 (asO (vTup (consO (asO (repV 3 (oN 6))) (consO (oC (.bool false)) (nilO))))))) xs (nE cs2 b2 n os i j (.own (.list (ps.map pairD))) s6 .no) = some (.nx (nE cs2 b2 n os i j (.own (.list (ps'.map pairD))) s6' .no)) := by
    intro xs
    induction xs with
    | nil => intro ps s6 _ h _; exact ⟨ps, s6, h, rfl, rfl⟩
    | cons x xs ih =>
      intro ps s6 hx h hlen
      obtain ⟨hx1, hx2⟩ := hx x List.mem_cons_self
      have ha := app_of (cs := cs2) (b := b2) (at' := (i : Int)) (other := (j : Int)) (s6 := .val x) (s7 := .no) (q := 3) (i := i) (mid := oN 6) (o := .nam 6) (x := x) (ps := ps) hl hn (by simp at hlen; omega) (.inl ⟨rfl, rfl⟩) (by rfl) (by rfl)
      obtain ⟨ps', s6', w1, w2, w3⟩ := ih (ps ++ [(PyData.tuple (repL os i x), false)]) (.val x) (fun y m => hx y (List.mem_cons_of_mem _ m)) (h.add (rep_no hl hn hx1 hx2)) (by simp at hlen ⊢; omega)
      refine ⟨ps', s6', w1, by simp at w2 ⊢; omega, ?_⟩
      rw [forL_nx (e1 := nE cs2 b2 n os i j (.own (.list (ps.map pairD))) (.val x) .no) (by rfl) ha, w3]
  have hio : gSub1 [uT (nI os), .int (i : Int)] = some (.val (.int (Int.ofNat os[i]))) := by
    show (L2.atI _ _).map Slot.val = _
    have : ((nI os).map PyData.int)[i]? = some (.int (Int.ofNat os[i])) := by simp [nI, hi]
    rw [L2.atI_nat this]
    rfl
  have hjo : gSub1 [uT (nI os), .int (j : Int)] = some (.val (.int (Int.ofNat os[j]))) := by
    show (L2.atI _ _).map Slot.val = _
    have : ((nI os).map PyData.int)[j]? = some (.int (Int.ofNat os[j])) := by simp [nI, hj]
    rw [L2.atI_nat this]
    rfl
  have hoi := hrng os[i] (List.getElem_mem hi)
  have hstr : gStr [.int (Int.ofNat os[i])] = some (.val (.str (toString (Int.ofNat os[i])))) := given_pos (p := (Int.ofNat os[i]).natAbs.log2 < 1920) (by
    have h1 : (Int.ofNat os[i]).natAbs < 2 ^ 10 := by
      show os[i] < 2 ^ 10
      omega
    have := PySem.Flt.log2_lt_of (by decide) h1
    omega)
  have s3a : iSeq (asO (vLst (consO (oN 1) (consO (asO (ev1 gNeg (oC (.int 1)))) (consO (oC .none) (consO (asO (evP gStr (consO (asO (ev2 gSub1 (oN 2) (oN 3))) (nilO)))) (consO (asO (vTup (consO (asO (ev2 gSub1 (oN 2) (oN 3))) (nilO)))) (nilO)))))))) (nE cs2 b2 n os i j (.own (.list (ps8.map pairD))) .no .no) =
      some ([.int n, .int (-1), .none, .str (toString (Int.ofNat os[i])), .tuple [.int (Int.ofNat os[i])]], nE cs2 b2 n os i j (.own (.list (ps8.map pairD))) .no .no) :=
    iSeq_of (asO_of (vLst_of (consO_of (by rfl) (consO_of (by rfl) (consO_of (by rfl) (consO_of (asO_of (evP_of (consO_of (asO_of (evP_of (by rfl) (by rfl) (by exact hio)) (by rfl)) (by rfl)) (by rfl) (by exact hstr)) (by rfl)) (consO_of (asO_of (vTup_of (consO_of (asO_of (evP_of (by rfl) (by rfl) (by exact hio)) (by rfl)) (by rfl)) (by rfl) (by exact f1)) (by rfl)) (by rfl)))))) (by rfl) (by exact f5)) (by rfl)) (by rfl) (by rfl)
  obtain ⟨ps13, s6a, q1, q2, q3⟩ := five [.int n, .int (-1), .none, .str (toString (Int.ofNat os[i])), .tuple [.int (Int.ofNat os[i])]] ps8 .no (fun x m => by
    simp only [List.mem_cons, List.not_mem_nil, or_false] at m
    rcases m with rfl | rfl | rfl | rfl | rfl
    · exact ⟨rfl, by simp [isIx]⟩
    · exact ⟨rfl, by simp [isIx]⟩
    · exact ⟨rfl, rfl⟩
    · exact ⟨rfl, rfl⟩
    · exact ⟨rfl, rfl⟩) all8 (by simp [ps8])
  have hp13 : ps13.length = 13 := by simpa [ps8] using q2
  -- two alike
  have hc4 : (bV (ev2 gNe (oN 4) (oN 3))) (nE cs2 b2 n os i j (.own (.list (ps13.map pairD))) s6a .no) = some (!decide ((j : Int) = (i : Int)), nE cs2 b2 n os i j (.own (.list (ps13.map pairD))) s6a .no) := bV_of (evP_of (by rfl) (by rfl) (by exact gNe_int))
  have s4 : ∃ ps, AllO n ps ∧ ps.length ≤ 14 ∧ sIf (bV (ev2 gNe (oN 4) (oN 3))) (sDrop (vApp 5 (asO (vTup (consO (asO (repV 3 (asO (ev2 gSub1 (oN 2) (oN 4))))) (consO (oC (.bool false)) (nilO))))))) (sNext) (nE cs2 b2 n os i j (.own (.list (ps13.map pairD))) s6a .no) = some (.nx (nE cs2 b2 n os i j (.own (.list (ps.map pairD))) s6a .no)) := by
    by_cases hij : (j : Int) = (i : Int)
    · rw [decide_eq_true hij] at hc4
      exact ⟨ps13, q1, by omega, (sIf_f hc4).trans (by rfl)⟩
    · rw [decide_eq_false hij] at hc4
      have ha := app_of (cs := cs2) (b := b2) (at' := (i : Int)) (other := (j : Int)) (s6 := s6a) (s7 := .no) (q := 3) (i := i) (mid := asO (ev2 gSub1 (oN 2) (oN 4))) (o := .dat (.int (Int.ofNat os[j]))) (x := .int (Int.ofNat os[j])) (ps := ps13) hl hn (by omega) (.inl ⟨rfl, rfl⟩) (asO_of (evP_of (by rfl) (by rfl) (by exact hjo)) (by rfl)) (by rfl)
      refine ⟨ps13 ++ [(PyData.tuple (repL os i (.int (Int.ofNat os[j]))), false)], q1.add ?_, by simp; omega, (sIf_t hc4).trans ha⟩
      show IsO n (PyData.tuple (repL os i (.int (Int.ofNat os[j])))) false
      rw [set_repL os hi hj]
      refine is_order_ints (by rw [List.length_set]; exact hl) (fun o m => ?_) (fun hnd => ?_) (by omega)
      · rcases List.mem_or_eq_of_mem_set m with z | z
        · exact hrng o z
        · rw [z]; exact hrng _ (List.getElem_mem hj)
      · have hji : j ≠ i := fun e => hij (by rw [e])
        have e1 : (os.set i os[j])[i]? = some os[j] := by rw [List.getElem?_set_self hi]
        have e2 : (os.set i os[j])[j]? = some os[j] := by rw [List.getElem?_set_ne (Ne.symm hji), List.getElem?_eq_getElem hj]
        have h1 : i < (os.set i os[j]).length := by rw [List.length_set]; exact hi
        have h2 : j < (os.set i os[j]).length := by rw [List.length_set]; exact hj
        rw [List.getElem?_eq_getElem h1] at e1
        rw [List.getElem?_eq_getElem h2] at e2
        have e3 := (Option.some.inj e1).trans (Option.some.inj e2).symm
        have hpw := List.pairwise_iff_getElem.mp hnd
        rcases Nat.lt_or_gt_of_ne hji with z | z
        · exact hpw j i h2 h1 z e3.symm
        · exact hpw i j h1 h2 z e3
  obtain ⟨ps14, p1, p2, p3⟩ := s4
  -- truths for numbers
  have last : ∀ (xs : List (Nat × Int)) (ps : List (PyData × Bool)) (s6 s7 : Slot), AllO n ps → ps.length + xs.length < 50000 → ∃ ps' s6' s7', AllO n ps' ∧
      forL (gT 2 (gConss (gN 7) (gConss (gN 6) (gNils)))) (sIf (bV (ev2 gLt (oN 6) (oC (.int 2)))) (sDrop (vApp 5 (asO (vTup (consO (asO (repV 7 (asO (ev2 gEq (oN 6) (oC (.int 1)))))) (consO (oC (.bool false)) (nilO))))))) (sNext)) (xs.map fun t => .tuple [.int (t.1 : Int), .int t.2]) (nE cs2 b2 n os i j (.own (.list (ps.map pairD))) s6 s7) = some (.nx (nE cs2 b2 n os i j (.own (.list (ps'.map pairD))) s6' s7')) := by
    intro xs
    induction xs with
    | nil => intro ps s6 s7 h _; exact ⟨ps, s6, s7, h, rfl⟩
    | cons t xs ih =>
      intro ps s6 s7 h hlen
      have hc : (bV (ev2 gLt (oN 6) (oC (.int 2)))) (nE cs2 b2 n os i j (.own (.list (ps.map pairD))) (.val (.int t.2)) (.val (.int (t.1 : Int)))) = some (decide (t.2 < 2), nE cs2 b2 n os i j (.own (.list (ps.map pairD))) (.val (.int t.2)) (.val (.int (t.1 : Int)))) := bV_of (evP_of (by rfl) (by rfl) (by exact gLt_int))
      by_cases h2 : t.2 < 2
      · rw [decide_eq_true h2] at hc
        have ha := app_of (cs := cs2) (b := b2) (at' := (i : Int)) (other := (j : Int)) (s6 := .val (.int t.2)) (s7 := .val (.int (t.1 : Int))) (q := 7) (i := t.1) (mid := asO (ev2 gEq (oN 6) (oC (.int 1)))) (o := .dat (.bool (decide (t.2 = 1)))) (x := .bool (decide (t.2 = 1))) (ps := ps) hl hn (by simp at hlen; omega) (.inr ⟨rfl, rfl⟩) (asO_of (evP_of (by rfl) (by rfl) (by exact gEq_int)) (by rfl)) (by rfl)
        obtain ⟨ps', s6', s7', w1, w2⟩ := ih (ps ++ [(PyData.tuple (repL os t.1 (.bool (decide (t.2 = 1)))), false)]) (.val (.int t.2)) (.val (.int (t.1 : Int))) (h.add (rep_no hl hn rfl rfl)) (by simp at hlen ⊢; omega)
        refine ⟨ps', s6', s7', w1, ?_⟩
        rw [List.map_cons, forL_nx (e1 := nE cs2 b2 n os i j (.own (.list (ps.map pairD))) (.val (.int t.2)) (.val (.int (t.1 : Int)))) (by rfl) ((sIf_t hc).trans ha), w2]
      · rw [decide_eq_false h2] at hc
        obtain ⟨ps', s6', s7', w1, w2⟩ := ih ps (.val (.int t.2)) (.val (.int (t.1 : Int))) h (by simp at hlen ⊢; omega)
        refine ⟨ps', s6', s7', w1, ?_⟩
        rw [List.map_cons, forL_nx (e1 := nE cs2 b2 n os i j (.own (.list (ps.map pairD))) (.val (.int t.2)) (.val (.int (t.1 : Int)))) (by rfl) ((sIf_f hc).trans (by rfl)), w2]
  have he : iEnu (oN 2) (nE cs2 b2 n os i j (.own (.list (ps14.map pairD))) s6a .no) = some (((List.range os.length).zip (nI os)).map fun t => .tuple [.int (t.1 : Int), .int t.2], nE cs2 b2 n os i j (.own (.list (ps14.map pairD))) s6a .no) := by
    have e : ((List.range os.length).zip (nI os)).map (fun t => PyData.tuple [.int (t.1 : Int), .int t.2]) = enumD (oDs os) := by
      unfold enumD
      rw [oDs_len]
      unfold oDs
      rw [List.zipWith_map_right, List.zip, List.map_zipWith]
    rw [e]
    rfl
  obtain ⟨ps', s6', s7', w1, w2⟩ := last ((List.range os.length).zip (nI os)) ps14 s6a .no p1 (by simp [nI]; omega)
  refine ⟨ps', w1, cs2, b2, d2, ?_⟩
  exact defE_rt [.deal cs b, .val (.int n), .val (uT (nI os)), .no, .no, .no, .no, .no] (by rfl) ((sSeq_nx s1).trans ((sSeq_nx s2).trans ((sSeq_nx ((sFor_of s3a).trans q3)).trans ((sSeq_nx p3).trans ((sSeq_nx ((sFor_of he).trans w2)).trans (by rfl)))))) (by rfl)
end
end Pf
/-! PlM: the mathematics of heads. -/
namespace Pf
open PySem PySem.Spec
/-! ### the order of pairs -/
def dl (os : List Nat) (a b : List Int) : Bool := if rk os a = rk os b then lexI a b else lexI (rk os a) (rk os b)
theorem dataLt_pr (os : List Nat) (a b : List Int) : PySem.W.dataLt (prD os a) (prD os b) = dl os a b := by
  unfold PySem.W.dataLt dl
  simp only [prD, uT, PySem.W.keyToks, PySem.W.keyToksAll]
  have h1 := toks_lt (rk os a) (rk os b) ([Sum.inl 1] ++ (PySem.W.keyToksAll (a.map .int) ++ [Sum.inl 0])) ([Sum.inl 1] ++ (PySem.W.keyToksAll (b.map .int) ++ [Sum.inl 0]))
  have h2 := toks_lt a b [Sum.inl 0] [Sum.inl 0]
  rw [PySem.W.lex_pre, h2] at h1
  have h3 : ∀ x y : List (Int ⊕ List Nat), PyProof.Rows.lexLt PyProof.Rows.itemOrd (Sum.inl 1 :: x) (Sum.inl 1 :: y) = PyProof.Rows.lexLt PyProof.Rows.itemOrd x y := fun x y => PySem.W.lex_pre [Sum.inl 1] x y
  rw [h3]
  refine h1.trans ?_
  by_cases h : rk os a = rk os b
  · rw [if_pos h, if_pos h]
    by_cases e : a = b
    · rw [if_pos e, e, lexI_irrefl]
      rfl
    · rw [if_neg e]
  · rw [if_neg h, if_neg h]
theorem dl_irrefl (os : List Nat) (a : List Int) : dl os a a = false := by simp [dl, lexI_irrefl]
theorem dl_trans {os : List Nat} {a b c : List Int} (h1 : dl os a b = true) (h2 : dl os b c = true) : dl os a c = true := by
  unfold dl at h1 h2 ⊢
  by_cases e1 : rk os a = rk os b
  · rw [if_pos e1] at h1
    by_cases e2 : rk os b = rk os c
    · rw [if_pos e2] at h2
      rw [if_pos (e1.trans e2)]
      exact lexI_trans h1 h2
    · rw [if_neg e2] at h2
      rw [e1, if_neg e2]
      exact h2
  · rw [if_neg e1] at h1
    by_cases e2 : rk os b = rk os c
    · rw [← e2, if_neg e1]
      exact h1
    · rw [if_neg e2] at h2
      have h3 := lexI_trans h1 h2
      by_cases e3 : rk os a = rk os c
      · rw [e3, lexI_irrefl] at h3
        cases h3
      · rw [if_neg e3]
        exact h3
theorem dl_total {os : List Nat} {a b : List Int} (h1 : dl os a b = false) (h2 : dl os b a = false) : a = b := by
  unfold dl at h1 h2
  by_cases e : rk os a = rk os b
  · rw [if_pos e] at h1
    rw [if_pos e.symm] at h2
    exact lexI_total _ _ h1 h2
  · rw [if_neg e] at h1
    rw [if_neg (Ne.symm e)] at h2
    exact absurd (lexI_total _ _ h1 h2) e
theorem dl_asymm {os : List Nat} {a b : List Int} (h : dl os a b = true) : dl os b a = false := by
  cases e : dl os b a with
  | false => rfl
  | true =>
    have := dl_trans h e
    rw [dl_irrefl] at this
    cases this
theorem srt_eq (os : List Nat) (l : List (List Int)) : srt os l = l.mergeSort fun a b => !dl os b a := by
  unfold srt
  congr 1
  funext a b
  rw [dataLt_pr]
theorem srt_perm (os : List Nat) (l : List (List Int)) : (srt os l).Perm l := List.mergeSort_perm _ _
theorem srt_sorted (os : List Nat) (l : List (List Int)) : (srt os l).Pairwise fun a b => dl os b a = false := by
  rw [srt_eq]
  have := List.pairwise_mergeSort (le := fun a b => !dl os b a) (fun a b c h1 h2 => ?_) (fun a b => ?_) l
  · exact this.imp fun h => by simpa using h
  · simp at h1 h2 ⊢
    cases e : dl os c a with
    | false => rfl
    | true =>
      -- a ≤ b ≤ c < a
      by_cases e1 : a = b
      · subst e1; rw [e] at h2; cases h2
      · have h3 : dl os a b = true := by
          cases e3 : dl os a b with
          | true => rfl
          | false => exact absurd (dl_total e3 h1) e1
        have := dl_trans e h3
        rw [h2] at this
        cases this
  · simp
    cases e : dl os b a with
    | false => exact .inl rfl
    | true => exact .inr (dl_asymm e)
theorem srt_unique {os : List Nat} {l l' : List (List Int)} (h : l.Perm l') : srt os l = srt os l' :=
  List.Perm.eq_of_pairwise (le := fun a b => dl os b a = false) (fun a b _ _ h1 h2 => dl_total h2 h1) (srt_sorted os l) (srt_sorted os l') (((srt_perm os l).trans h).trans (srt_perm os l').symm)
/-- a greatest one -/
def IsMax (os : List Nat) (l : List (List Int)) (m : List Int) : Prop := m ∈ l ∧ ∀ x ∈ l, dl os m x = false
theorem max_unique {os : List Nat} {l : List (List Int)} {m m' : List Int} (h : IsMax os l m) (h' : IsMax os l m') : m = m' := dl_total (h.2 m' h'.1) (h'.2 m h.1)
theorem last_max {os : List Nat} {l : List (List Int)} {m : List Int} (h : (srt os l).getLast? = some m) : IsMax os l m := by
  obtain ⟨ys, e⟩ := List.getLast?_eq_some_iff.mp h
  have hs := srt_sorted os l
  have hp := srt_perm os l
  rw [e] at hs hp
  refine ⟨hp.mem_iff.mp (by simp), fun x mx => ?_⟩
  have mx := hp.mem_iff.mpr mx
  rcases List.mem_append.mp mx with z | z
  · exact (List.pairwise_append.mp hs).2.2 x z m (by simp)
  · rw [List.mem_singleton.mp z, dl_irrefl]
theorem hd_max {os : List Nat} {l : List (List Int)} {m : List Int} (h : IsMax os l m) : hdD (srt os l) = uT m := by
  unfold hdD
  cases e : (srt os l).getLast? with
  | none =>
    rw [List.getLast?_eq_none_iff] at e
    have := (srt_perm os l).mem_iff.mpr h.1
    rw [e] at this
    cases this
  | some m' =>
    show uT m' = uT m
    rw [max_unique (last_max e) h]
theorem hd_nil (os : List Nat) : hdD (srt os []) = .none := by simp [srt, hdD]
/-! ### its own greatest -/
section
variable {n : Nat} {os : List Nat}
theorem rk_inj (hp : os.Perm (List.range n)) {a b : List Int} (ha : a.length = n) (hb : b.length = n) (h : rk os a = rk os b) : a = b := by
  have h1 := List.map_inj_left.mp h
  refine List.ext_getElem (by omega) fun i h2 h3 => ?_
  have hi : i ∈ os.reverse := List.mem_reverse.mpr (hp.mem_iff.mpr (List.mem_range.mpr (by omega)))
  have := h1 i hi
  rw [List.getD_eq_getElem?_getD, List.getD_eq_getElem?_getD, List.getElem?_eq_getElem h2, List.getElem?_eq_getElem h3] at this
  simpa using this
theorem dl_rk (hp : os.Perm (List.range n)) {a b : List Int} (ha : a.length = n) (hb : b.length = n) : dl os a b = lexI (rk os a) (rk os b) := by
  unfold dl
  by_cases e : rk os a = rk os b
  · rw [if_pos e]
    have := rk_inj hp ha hb e
    subst this
    rw [lexI_irrefl, lexI_irrefl]
  · rw [if_neg e]
theorem best_max (hp : os.Perm (List.range n)) {l : List (List Int)} (hl : ∀ a ∈ l, a.length = n) (h0 : l ≠ []) : ∃ m, best os l = some m ∧ IsMax os l m := by
  have go : ∀ (l l0 : List (List Int)) (m : List Int), (∀ a ∈ l, a.length = n) → (∀ a ∈ l0, a.length = n) → IsMax os l0 m → ∃ m', List.foldl (fun f a => match f with
      | none => some a
      | some b => if lexI (rk os b) (rk os a) then some a else some b) (some m) l = some m' ∧ IsMax os (l0 ++ l) m' := by
    intro l
    induction l with
    | nil => intro l0 m _ _ h; exact ⟨m, rfl, by simpa using h⟩
    | cons a l ih =>
      intro l0 m hl hl0 h
      have ha := hl a List.mem_cons_self
      have hm := hl0 m h.1
      have e := dl_rk hp hm ha
      simp only [List.foldl_cons]
      cases hc : lexI (rk os m) (rk os a) with
      | true =>
        rw [if_pos rfl]
        have hd : dl os m a = true := by rw [e]; exact hc
        obtain ⟨m', q1, q2⟩ := ih (l0 ++ [a]) a (fun x mx => hl x (List.mem_cons_of_mem _ mx)) (fun x mx => by
          rcases List.mem_append.mp mx with z | z
          · exact hl0 x z
          · rw [List.mem_singleton.mp z]; exact ha) ⟨by simp, fun x mx => by
          rcases List.mem_append.mp mx with z | z
          · cases e2 : dl os a x with
            | false => rfl
            | true =>
              have := dl_trans hd e2
              rw [h.2 x z] at this
              cases this
          · rw [List.mem_singleton.mp z, dl_irrefl]⟩
        exact ⟨m', q1, by simpa using q2⟩
      | false =>
        rw [if_neg Bool.false_ne_true]
        have hd : dl os m a = false := by rw [e]; exact hc
        obtain ⟨m', q1, q2⟩ := ih (l0 ++ [a]) m (fun x mx => hl x (List.mem_cons_of_mem _ mx)) (fun x mx => by
          rcases List.mem_append.mp mx with z | z
          · exact hl0 x z
          · rw [List.mem_singleton.mp z]; exact ha) ⟨by simp [h.1], fun x mx => by
          rcases List.mem_append.mp mx with z | z
          · exact h.2 x z
          · rw [List.mem_singleton.mp z]; exact hd⟩
        exact ⟨m', q1, by simpa using q2⟩
  cases l with
  | nil => exact absurd rfl h0
  | cons a l =>
    obtain ⟨m, h1, h2⟩ := go l [a] a (fun x mx => hl x (List.mem_cons_of_mem _ mx)) (by simpa using hl a List.mem_cons_self) ⟨by simp, by simp [dl_irrefl]⟩
    exact ⟨m, h1, by simpa using h2⟩
/-! ### sums -/
theorem rk_len (os : List Nat) (a : List Int) : (rk os a).length = os.length := by simp [rk]
theorem rk_add (hp : os.Perm (List.range n)) {a b : List Int} (ha : a.length = n) (hb : b.length = n) : rk os (addP a b) = (rk os a).zipWith (· + ·) (rk os b) := by
  refine List.ext_getElem (by simp [rk]) fun i h1 h2 => ?_
  have hi : i < os.reverse.length := by simpa [rk] using h1
  have hm : os.reverse[i] < n := List.mem_range.mp (hp.mem_iff.mp (List.mem_reverse.mp (List.getElem_mem hi)))
  simp only [rk, List.getElem_map, List.getElem_zipWith, addP]
  rw [List.getD_eq_getElem?_getD, List.getD_eq_getElem?_getD, List.getD_eq_getElem?_getD, List.getElem?_zipWith, List.getElem?_eq_getElem (by omega), List.getElem?_eq_getElem (by omega)]
  rfl
theorem addP_len {a b : List Int} (ha : a.length = n) (hb : b.length = n) : (addP a b).length = n := by simp [addP]; omega
theorem addP_comm (a b : List Int) : addP a b = addP b a := by
  unfold addP
  rw [List.zipWith_comm]
  congr 1
  funext x y
  exact Int.add_comm _ _
theorem dl_add (hp : os.Perm (List.range n)) {a b c : List Int} (ha : a.length = n) (hb : b.length = n) (hc : c.length = n) : dl os (addP a c) (addP b c) = dl os a b := by
  rw [dl_rk hp (addP_len ha hc) (addP_len hb hc), dl_rk hp ha hb, rk_add hp ha hc, rk_add hp hb hc]
  exact lexI_add (by rw [rk_len, rk_len]) (by rw [rk_len, rk_len])
/-- the greatest sum comes of the greatest two alone -/
theorem sum_max (hp : os.Perm (List.range n)) {A B : List (List Int)} {a b a1 b1 : List Int} (hA : ∀ x ∈ A, x.length = n) (hB : ∀ x ∈ B, x.length = n) (h1 : IsMax os A a1) (h2 : IsMax os B b1) (ha : a ∈ A) (hb : b ∈ B) :
    dl os (addP a1 b1) (addP a b) = false ∧ (addP a b = addP a1 b1 → a = a1 ∧ b = b1) := by
  have la := hA a ha
  have lb := hB b hb
  have la1 := hA a1 h1.1
  have lb1 := hB b1 h2.1
  have le1 : a = a1 ∨ dl os (addP a b) (addP a1 b) = true := by
    by_cases e : a = a1
    · exact .inl e
    · refine .inr ?_
      rw [dl_add hp la la1 lb]
      cases e2 : dl os a a1 with
      | true => rfl
      | false => exact absurd (dl_total e2 (h1.2 a ha)) e
  have le2 : b = b1 ∨ dl os (addP a1 b) (addP a1 b1) = true := by
    by_cases e : b = b1
    · exact .inl e
    · refine .inr ?_
      rw [addP_comm a1 b, addP_comm a1 b1, dl_add hp lb lb1 la1]
      cases e2 : dl os b b1 with
      | true => rfl
      | false => exact absurd (dl_total e2 (h2.2 b hb)) e
  rcases le1 with rfl | l1
  · rcases le2 with rfl | l2
    · exact ⟨dl_irrefl _ _, fun _ => ⟨rfl, rfl⟩⟩
    · exact ⟨dl_asymm l2, fun e => by rw [e, dl_irrefl] at l2; cases l2⟩
  · rcases le2 with rfl | l2
    · exact ⟨dl_asymm l1, fun e => by rw [e, dl_irrefl] at l1; cases l1⟩
    · have l3 := dl_trans l1 l2
      exact ⟨dl_asymm l3, fun e => by rw [e, dl_irrefl] at l3; cases l3⟩
end
/-! ### the products' factors -/
theorem get_addF (F : Asc) (k : List Int) (c : Int) (k' : List Int) : (getF (addF F k c) k').getD 0 = (getF F k').getD 0 + if k = k' then c else 0 := by
  unfold addF
  rw [getF_putF]
  by_cases h : k' = k
  · subst h; simp
  · rw [if_neg h, if_neg (Ne.symm h)]
    simp
def innS (t : List Int × Int) (k : List Int) (Q : Asc) : Int := (Q.map fun u => if addP t.1 u.1 = k then t.2 * u.2 else 0).sum
theorem get_inner (t : List Int × Int) (k : List Int) : ∀ (Q F : Asc), (getF (Q.foldl (fun F u => addF F (addP t.1 u.1) (t.2 * u.2)) F) k).getD 0 = (getF F k).getD 0 + innS t k Q
  | [], F => by simp [innS]
  | u :: Q, F => by
    rw [List.foldl_cons, get_inner t k Q, get_addF]
    simp only [innS, List.map_cons, List.sum_cons]
    omega
theorem get_mulF (P Q : Asc) (k : List Int) : (getF (mulF P Q) k).getD 0 = (P.map fun t => innS t k Q).sum := by
  have go : ∀ (P F : Asc), (getF (P.foldl (fun F t => Q.foldl (fun F u => addF F (addP t.1 u.1) (t.2 * u.2)) F) F) k).getD 0 = (getF F k).getD 0 + (P.map fun t => innS t k Q).sum := by
    intro P
    induction P with
    | nil => intro F; simp
    | cons t P ih =>
      intro F
      rw [List.foldl_cons, ih, get_inner]
      simp only [List.map_cons, List.sum_cons]
      omega
  have := go P []
  simpa [mulF, getF] using this
theorem sum_zero {α : Type} {f : α → Int} : ∀ {l : List α}, (∀ a ∈ l, f a = 0) → (l.map f).sum = 0
  | [], _ => rfl
  | a :: l, h => by
    rw [List.map_cons, List.sum_cons, h a List.mem_cons_self, sum_zero fun b m => h b (List.mem_cons_of_mem _ m)]
    rfl
theorem sum_single {f : List Int × Int → Int} {a : List Int} {c : Int} : ∀ {l : Asc}, (l.map (·.1)).Nodup → (a, c) ∈ l → (∀ t ∈ l, t.1 ≠ a → f t = 0) → (l.map f).sum = f (a, c)
  | [], _, h, _ => by cases h
  | t :: l, nd, m, h => by
    rw [List.map_cons] at nd
    obtain ⟨n1, n2⟩ := List.nodup_cons.mp nd
    rw [List.map_cons, List.sum_cons]
    rcases List.mem_cons.mp m with e | m
    · subst e
      rw [sum_zero fun u mu => h u (List.mem_cons_of_mem _ mu) fun e => n1 (by
        have hm : u.1 ∈ l.map (·.1) := List.mem_map_of_mem (f := (·.1)) mu
        rw [e] at hm
        exact hm)]
      omega
    · have hne : t.1 ≠ a := fun e => n1 (by rw [e]; exact List.mem_map_of_mem (f := (·.1)) m)
      rw [h t List.mem_cons_self hne, sum_single n2 m fun u mu => h u (List.mem_cons_of_mem _ mu)]
      omega
theorem key_mulF {P Q : Asc} {k : List Int} (h : k ∈ (mulF P Q).map (·.1)) : ∃ t ∈ P, ∃ u ∈ Q, k = addP t.1 u.1 := by
  have inn : ∀ (t : List Int × Int) (Q F : Asc), k ∈ (Q.foldl (fun F u => addF F (addP t.1 u.1) (t.2 * u.2)) F).map (·.1) → k ∈ F.map (·.1) ∨ ∃ u ∈ Q, k = addP t.1 u.1 := by
    intro t Q
    induction Q with
    | nil => intro F h; exact .inl h
    | cons u Q ih =>
      intro F h
      rw [List.foldl_cons] at h
      rcases ih _ h with h | ⟨v, m, e⟩
      · unfold addF at h
        rw [keys_putF] at h
        split at h
        · exact .inl h
        · rcases List.mem_append.mp h with z | z
          · exact .inl z
          · exact .inr ⟨u, List.mem_cons_self, List.mem_singleton.mp z⟩
      · exact .inr ⟨v, List.mem_cons_of_mem _ m, e⟩
  have out : ∀ (P F : Asc), k ∈ (P.foldl (fun F t => Q.foldl (fun F u => addF F (addP t.1 u.1) (t.2 * u.2)) F) F).map (·.1) → k ∈ F.map (·.1) ∨ ∃ t ∈ P, ∃ u ∈ Q, k = addP t.1 u.1 := by
    intro P
    induction P with
    | nil => intro F h; exact .inl h
    | cons t P ih =>
      intro F h
      rw [List.foldl_cons] at h
      rcases ih _ h with h | ⟨v, m, r⟩
      · rcases inn t Q F h with h | ⟨u, m, e⟩
        · exact .inl h
        · exact .inr ⟨t, List.mem_cons_self, u, m, e⟩
      · exact .inr ⟨v, List.mem_cons_of_mem _ m, r⟩
  rcases out P [] h with h | h
  · cases h
  · exact h
end Pf
/-! PlN: heads of products. -/
namespace Pf
open PySem PySem.Spec
theorem mem_gath {p : Int} {F : Asc} {t : List Int × Int} : t ∈ gath p F ↔ t.1 ∈ F.map (·.1) ∧ t.2 = el p ((getF F t.1).getD 0) ∧ t.2 ≠ 0 := by
  unfold gath tms
  rw [List.mem_filter, List.mem_map]
  constructor
  · rintro ⟨⟨k, m, e⟩, h⟩
    have m := mem_srtK.mp m
    subst e
    exact ⟨m, rfl, by simpa using h⟩
  · rintro ⟨h1, h2, h3⟩
    exact ⟨⟨t.1, mem_srtK.mpr h1, by rw [← h2]⟩, by simpa using h3⟩
theorem gath_nodup {p : Int} {F : Asc} (h : (F.map (·.1)).Nodup) : ((gath p F).map (·.1)).Nodup := by
  have h1 : ((tms p F).map (·.1)).Nodup := by
    unfold tms
    rw [List.map_map]
    have e : ((fun x : List Int × Int => x.1) ∘ fun k => (k, el p ((getF F k).getD 0))) = id := rfl
    rw [e, List.map_id]
    exact (List.mergeSort_perm _ _).nodup_iff.mpr h
  exact h1.sublist ((List.filter_sublist).map _)
theorem gath_len (p : Int) (F : Asc) : (gath p F).length ≤ F.length := by
  have h1 : (gath p F).length ≤ (tms p F).length := List.length_filter_le _ _
  have h2 : (tms p F).length = F.length := by
    have := List.length_mergeSort (le := fun a b => !lexI b a) (F.map (·.1))
    simpa [tms, srtK] using this
  omega
/-- what is known of a drawn polynomial -/
structure PolyG (n : Nat) (p : Int) (G : Asc) : Prop where
  nd : (G.map (·.1)).Nodup
  row : ∀ t ∈ G, t.1.length = n
  nz : ∀ t ∈ G, t.2 ≠ 0
  sm : ∀ t ∈ G, -200 ≤ t.2 ∧ t.2 ≤ 200
  rd : ∀ t ∈ G, p ≠ 0 → 0 ≤ t.2 ∧ t.2 < p
theorem polyG {n : Nat} {p : Int} {F : Asc} (h : PolyF n F) (hp : 0 ≤ p) (hp2 : p ≤ 101) : PolyG n p (gath p F) where
  nd := gath_nodup h.1
  row := fun t m => by
    obtain ⟨h1, _, _⟩ := mem_gath.mp m
    obtain ⟨u, mu, e⟩ := List.mem_map.mp h1
    rw [← e]
    exact (h.2 u mu).1.1
  nz := fun t m => (mem_gath.mp m).2.2
  sm := fun t m => by
    obtain ⟨h1, h2, _⟩ := mem_gath.mp m
    obtain ⟨v, hv⟩ := getF_mem h1
    rw [hv] at h2
    have hvm : -200 ≤ v ∧ v ≤ 200 := by
      unfold getF at hv
      cases e : F.find? fun u => decide (u.1 = t.1) with
      | none => rw [e] at hv; cases hv
      | some u =>
        rw [e] at hv
        cases hv
        exact (h.2 u (List.mem_of_find?_eq_some e)).2
    rw [h2]
    unfold el
    split
    · exact hvm
    · have h3 := Int.emod_nonneg v (show p ≠ 0 by assumption)
      have h4 := Int.emod_lt_of_pos v (show 0 < p by omega)
      simp only [Option.getD_some]
      omega
  rd := fun t m hne => by
    obtain ⟨_, h2, _⟩ := mem_gath.mp m
    rw [h2]
    unfold el
    rw [if_neg hne]
    exact ⟨Int.emod_nonneg _ hne, Int.emod_lt_of_pos _ (by omega)⟩
theorem prime_ok : ∀ q ∈ [2, 3, 7, 101], ∀ a < q, ∀ b < q, a ≠ 0 → b ≠ 0 → (a * b) % q ≠ 0 := by decide +kernel
theorem el_mul {p a b : Int} (hp : p ∈ [(0 : Int), 2, 3, 7, 101]) (ha : a ≠ 0) (hb : b ≠ 0) (ra : p ≠ 0 → 0 ≤ a ∧ a < p) (rb : p ≠ 0 → 0 ≤ b ∧ b < p) : el p (a * b) ≠ 0 := by
  unfold el
  by_cases h : p = 0
  · rw [if_pos h]
    exact Int.mul_ne_zero ha hb
  · rw [if_neg h]
    obtain ⟨a0, a1⟩ := ra h
    obtain ⟨b0, b1⟩ := rb h
    obtain ⟨q, hq⟩ : ∃ q : Nat, p = (q : Int) := ⟨p.toNat, by omega⟩
    obtain ⟨x, rfl⟩ : ∃ x : Nat, a = (x : Int) := ⟨a.toNat, by omega⟩
    obtain ⟨y, rfl⟩ : ∃ y : Nat, b = (y : Int) := ⟨b.toNat, by omega⟩
    subst hq
    have hm : q ∈ [2, 3, 7, 101] := by
      simp only [List.mem_cons, List.not_mem_nil, or_false] at hp ⊢
      omega
    have := prime_ok q hm x (by omega) y (by omega) (by omega) (by omega)
    intro e
    have e2 : ((x * y % q : Nat) : Int) = 0 := by
      rw [Int.natCast_emod, Int.natCast_mul]
      exact e
    omega
section
variable {n : Nat} {os : List Nat} {p : Int} {P Q : Asc}
/-- a product's head, its factor -/
theorem prod_head (hp : os.Perm (List.range n)) (hpp : p ∈ [(0 : Int), 2, 3, 7, 101]) (gP : PolyG n p P) (gQ : PolyG n p Q) {a b : List Int} {c d : Int} (ha : IsMax os (P.map (·.1)) a) (hb : IsMax os (Q.map (·.1)) b) (hc : (a, c) ∈ P) (hd : (b, d) ∈ Q) :
    IsMax os ((gath p (mulF P Q)).map (·.1)) (addP a b) ∧ facOf (gath p (mulF P Q)) (addP a b) = el p (c * d) := by
  have hA : ∀ x ∈ P.map (·.1), x.length = n := fun x m => by
    obtain ⟨t, mt, rfl⟩ := List.mem_map.mp m
    exact gP.row t mt
  have hB : ∀ x ∈ Q.map (·.1), x.length = n := fun x m => by
    obtain ⟨t, mt, rfl⟩ := List.mem_map.mp m
    exact gQ.row t mt
  have sm : ∀ t ∈ P, ∀ u ∈ Q, dl os (addP a b) (addP t.1 u.1) = false ∧ (addP t.1 u.1 = addP a b → t.1 = a ∧ u.1 = b) := fun t mt u mu =>
    sum_max hp hA hB ha hb (List.mem_map_of_mem (f := (·.1)) mt) (List.mem_map_of_mem (f := (·.1)) mu)
  have hval : (getF (mulF P Q) (addP a b)).getD 0 = c * d := by
    rw [get_mulF]
    have h1 : (P.map fun t => innS t (addP a b) Q).sum = innS (a, c) (addP a b) Q := sum_single gP.nd hc fun t mt hne => sum_zero fun u mu => if_neg fun e => hne ((sm t mt u mu).2 e).1
    rw [h1]
    have h2 : innS (a, c) (addP a b) Q = (fun u : List Int × Int => if addP a u.1 = addP a b then c * u.2 else 0) (b, d) := sum_single (f := fun u => if addP a u.1 = addP a b then c * u.2 else 0) gQ.nd hd fun u mu hne => if_neg fun e => hne ((sm (a, c) hc u mu).2 e).2
    rw [h2]
    simp
  have hnz : el p (c * d) ≠ 0 := el_mul hpp (gP.nz _ hc) (gQ.nz _ hd) (gP.rd _ hc) (gQ.rd _ hd)
  have hkey : addP a b ∈ (mulF P Q).map (·.1) := by
    cases e : getF (mulF P Q) (addP a b) with
    | none =>
      rw [e] at hval
      have h0 : c * d = 0 := hval.symm
      exact absurd h0 (Int.mul_ne_zero (gP.nz _ hc) (gQ.nz _ hd))
    | some v =>
      unfold getF at e
      cases e2 : (mulF P Q).find? fun u => decide (u.1 = addP a b) with
      | none => rw [e2] at e; cases e
      | some u =>
        have h1 := List.mem_of_find?_eq_some e2
        have h2 := List.find?_some e2
        simp at h2
        rw [← h2]
        exact List.mem_map_of_mem (f := (·.1)) h1
  have hmem : (addP a b, el p (c * d)) ∈ gath p (mulF P Q) := mem_gath.mpr ⟨hkey, by rw [hval], hnz⟩
  refine ⟨⟨List.mem_map_of_mem (f := (·.1)) hmem, fun x m => ?_⟩, ?_⟩
  · obtain ⟨t, mt, rfl⟩ := List.mem_map.mp m
    obtain ⟨t1, m1, u1, m2, e⟩ := key_mulF (mem_gath.mp mt).1
    rw [e]
    exact (sm t1 m1 u1 m2).1
  · unfold facOf
    obtain ⟨v, hv⟩ := getF_mem (List.mem_map_of_mem (f := (·.1)) hmem)
    have hv2 : getF (gath p (mulF P Q)) (addP a b) = some v := hv
    rw [hv2]
    unfold getF at hv2
    cases e2 : (gath p (mulF P Q)).find? fun u => decide (u.1 = addP a b) with
    | none => rw [e2] at hv2; cases hv2
    | some u =>
      rw [e2] at hv2
      cases hv2
      have h1 := List.mem_of_find?_eq_some e2
      have h2 := List.find?_some e2
      simp at h2
      have h3 := (mem_gath.mp h1).2.1
      rw [h2, hval] at h3
      exact h3
theorem mulF_nil_r (P : Asc) : mulF P [] = [] := by
  unfold mulF
  induction P with
  | nil => rfl
  | cons t P ih => exact ih
theorem mul_keys (gP : PolyG n p P) (gQ : PolyG n p Q) : ∀ k ∈ (mulF P Q).map (·.1), k.length = n := fun k m => by
  obtain ⟨t, mt, u, mu, rfl⟩ := key_mulF m
  exact addP_len (gP.row t mt) (gQ.row u mu)
end
end Pf
/-! PlO: the law's stages. -/
namespace Pf
open PySem PySem.Spec
noncomputable abbrev ST1 : EvS := sSet 1 (callF [false, false] ev_law_draw (consO (oN 0) (consO (oC (.int 21)) (nilO))))
noncomputable abbrev ST2 : EvS := sPar 2 3 (callF [true, false] ev_law_of (consO (oN 1) (consO (asO (vLst (consO (oC (.int 0)) (consO (oC (.int 0)) (consO (oC (.int 2)) (consO (oC (.int 3)) (consO (oC (.int 7)) (consO (oC (.int 101)) (nilO))))))))) (nilO)))) (callF [true, false] ev_law_of (consO (oN 1) (consO (asO (vLst (consO (oC (.int 1)) (consO (oC (.int 2)) (consO (oC (.int 3)) (consO (oC (.int 4)) (consO (oC (.int 10)) (consO (asO (ev2 gAdd (oC (.int 1)) (asO (callF [true, false] anyF (consO (oN 1) (consO (oC (.int 10)) (nilO))))))) (nilO))))))))) (nilO))))
noncomputable abbrev ST3 : EvS := sSet 4 (callF [true, false] ev_law_order (consO (oN 1) (consO (oN 3) (nilO))))
noncomputable abbrev ST4 : EvS := sFor (iSeq (asO (callF [true, false, false] ev_law_near_orders (consO (oN 1) (consO (oN 3) (consO (oN 4) (nilO))))))) (gT 2 (gConss (gN 5) (gConss (gN 6) (gNils)))) (sIf (bOr (bNot (bV (callF [false, false] (ev_law_same 6) (consO (asO (callF [false, false] ev_is_order (consO (oN 3) (consO (oN 5) (nilO))))) (consO (oN 6) (nilO)))))) (bNot (bV (callF [false, false] (ev_law_same 6) (consO (asO (callF [false, false] ev_is_order (rowK 0 2 [1, 0] nilO (consO (oN 5) (consO (oN 3) (nilO)))))) (consO (oN 6) (nilO))))))) (sRet (vO (oC (.bool false)))) (sNext))
noncomputable abbrev ST5 : EvS := sSet 7 (callF [true, false, false, false] ev_law_some (consO (oN 1) (consO (oN 3) (consO (asO (callF [true, false] ev_law_of (consO (oN 1) (consO (asO (vLst (consO (oC (.int 2)) (consO (oC (.int 6)) (consO (oC (.int 14)) (nilO)))))) (nilO))))) (consO (asO (callF [true, false] ev_law_of (consO (oN 1) (consO (asO (vLst (consO (oC (.int 2)) (consO (oC (.int 4)) (consO (oC (.int 41)) (nilO)))))) (nilO))))) (nilO))))))
noncomputable abbrev ST6 : EvS := sSet 8 (callF [false, false] ev_along (consO (oN 4) (consO (asO (vIte (bV (ev2 gEq (asO (callF [true, false] anyF (consO (oN 1) (consO (oC (.int 2)) (nilO))))) (oC (.int 0)))) (vO (oN 7)) (evP gTuple (consO (oN 7) (nilO))))) (nilO))))
noncomputable abbrev ST7 : EvS := sIf (bOr (bNot (bV (eIsi [.tuple] (oN 8)))) (bOr (bV (ev2 gNe (asO (evP gLen (consO (oN 8) (nilO)))) (asO (evP gLen (consO (oN 7) (nilO)))))) (bV (ev2 gNe (asO (vLc (iSeq (oN 7)) (gN 9) (bV (ev2 gNotIn (oN 9) (oN 8))) (oN 9) [9])) (asO (vLst (nilO))))))) (sRet (vO (oC (.bool false)))) (sNext)
noncomputable abbrev ST8 : EvS := sIf (bOr (bV (ev2 gNe (asO (vLc (Pf.iRng1 (asO (ev2 Pf.gSub (asO (evP gLen (consO (oN 8) (nilO)))) (oC (.int 1))))) (gN 17) (bNot (bV (callF [false, false, false] ev_law_is_ahead (consO (oN 4) (consO (asO (ev2 gSub1 (oN 8) (oN 17))) (consO (asO (ev2 gSub1 (oN 8) (asO (ev2 gAdd (oN 17) (oC (.int 1)))))) (nilO))))))) (oN 17) [17])) (asO (vLst (nilO))))) (bNot (bV (callF [false, false] (ev_law_same 6) (consO (asO (callF [false, false] ev_along (rowK 0 2 [1, 0] nilO (consO (asO (vRev (oN 8))) (consO (oN 4) (nilO)))))) (consO (oN 8) (nilO))))))) (sRet (vO (oC (.bool false)))) (sNext)
noncomputable abbrev ST9 : EvS := sFor (iSeq (asO (vCut (oN 7) none (some (oC (.int 5)))))) (gN 9) (sFor (iSeq (oN 7)) (gN 16) (sIf (bNot (bV (callF [false, false] (ev_law_same 6) (consO (asO (callF [false, false, false] ev_is_ahead (consO (oN 4) (consO (oN 9) (consO (oN 16) (nilO)))))) (consO (asO (callF [false, false, false] ev_law_is_ahead (consO (oN 4) (consO (oN 9) (consO (oN 16) (nilO)))))) (nilO)))))) (sRet (vO (oC (.bool false)))) (sNext)))
noncomputable abbrev ST10 : EvS := sPar 10 11 (callF [true, false, false, false, false] ev_law_polynomial (consO (oN 1) (consO (oN 2) (consO (oN 3) (consO (asO (callF [true, false] anyF (consO (oN 1) (consO (oC (.int 7)) (nilO))))) (consO (oC (.int 20)) (nilO))))))) (callF [true, false, false, false, false] ev_law_polynomial (consO (oN 1) (consO (oN 2) (consO (oN 3) (consO (asO (callF [true, false] anyF (consO (oN 1) (consO (oC (.int 7)) (nilO))))) (consO (oC (.int 20)) (nilO)))))))
noncomputable abbrev ST11 : EvS := sUnp (gT 2 (gConss (gN 12) (gConss (gN 13) (gNils)))) (vTup (consO (asO (callF [false, false] ev_law_due_head (consO (oN 10) (consO (oN 4) (nilO))))) (consO (asO (callF [false, false] ev_law_due_head (consO (oN 11) (consO (oN 4) (nilO))))) (nilO))))
noncomputable abbrev ST12 : EvS := sIf (bOr (bNot (bV (callF [false, false] (ev_law_same 6) (consO (asO (callF [false, false] ev_head (consO (oN 10) (consO (oN 4) (nilO))))) (consO (oN 12) (nilO)))))) (bOr (bNot (bV (callF [false, false] (ev_law_same 6) (consO (asO (callF [false, false] ev_head (rowK 0 2 [1, 0] nilO (consO (oN 4) (consO (oN 11) (nilO)))))) (consO (oN 13) (nilO)))))) (bV (ev2 gIsNot (asO (callF [false, false] ev_head (consO (asO (vTup (nilO))) (consO (oN 4) (nilO))))) (oC .none))))) (sRet (vO (oC (.bool false)))) (sNext)
noncomputable abbrev ST13 : EvS := sSet 14 (callF [false, false, false] ev_times (consO (oN 2) (consO (oN 10) (consO (oN 11) (nilO)))))
noncomputable abbrev ST14 : EvS := sIf (bOr (bV (ev2 gIs (oN 12) (oC .none))) (bV (ev2 gIs (oN 13) (oC .none)))) (sRet (ev2 gIs (asO (callF [false, false] ev_head (consO (oN 14) (consO (oN 4) (nilO))))) (oC .none))) (sNext)
noncomputable abbrev ST15 : EvS := sSet 6 (callF [false, false] ev_law_plus_powers (consO (oN 12) (consO (oN 13) (nilO))))
noncomputable abbrev ST16 : EvS := sIf (bNot (bV (callF [false, false] (ev_law_same 6) (consO (asO (callF [false, false] ev_head (consO (oN 14) (consO (oN 4) (nilO))))) (consO (oN 6) (nilO)))))) (sRet (vO (oC (.bool false)))) (sNext)
noncomputable abbrev ST17 : EvS := sSet 15 (ev2 gMul (asO (ev2 gSub1 (asO (vLc (iSeq (oN 10)) (gT 2 (gConss (gN 18) (gConss (gN 19) (gNils)))) (bV (ev2 gEq (oN 18) (oN 12))) (oN 19) [18, 19])) (oC (.int 0)))) (asO (ev2 gSub1 (asO (vLc (iSeq (oN 11)) (gT 2 (gConss (gN 18) (gConss (gN 19) (gNils)))) (bV (ev2 gEq (oN 18) (oN 13))) (oN 19) [18, 19])) (oC (.int 0)))))
noncomputable abbrev ST18 : EvS := sRet (callF [false, false] (ev_law_same 6) (consO (asO (callF [false, false] ev_factor_of (consO (oN 14) (consO (oN 6) (nilO))))) (consO (asO (callF [false, false] ev_law_element (consO (oN 2) (consO (oN 15) (nilO))))) (nilO))))
theorem bd_eq : bd_theLaw = sSeq ST1 (sSeq ST2 (sSeq ST3 (sSeq ST4 (sSeq ST5 (sSeq ST6 (sSeq ST7 (sSeq ST8 (sSeq ST9 (sSeq ST10 (sSeq ST11 (sSeq ST12 (sSeq ST13 (sSeq ST14 (sSeq ST15 (sSeq ST16 (sSeq ST17 (ST18))))))))))))))))) := rfl
abbrev LE (sc dl p n o v5 v6 v7 v8 v9 f g a b pr ld v16 : Slot) : Env1 := [sc, dl, p, n, o, v5, v6, v7, v8, v9, f, g, a, b, pr, ld, v16, .no, .no, .no]
section
variable {sc dl p n o v5 v6 v7 v8 v9 f g a b pr ld v16 : Slot}
theorem st1 {ns : List Int} {cs : List Int} {bb : Int} (h : ev_law_draw [.val (uL ns), .val (.int 21)] = some (.deal cs bb, [.no, .no])) : ST1 (LE (.val (uL ns)) .no .no .no .no .no .no .no .no .no .no .no .no .no .no .no .no) = some (.nx (LE (.val (uL ns)) (.deal cs bb) .no .no .no .no .no .no .no .no .no .no .no .no .no .no .no)) :=
  sSet_of (i := 1) (e := LE (.val (uL ns)) .no .no .no .no .no .no .no .no .no .no .no .no .no .no .no .no) (s := .deal cs bb) (callF_of (by rfl) (by rfl) (by rfl) (by rfl) (by rfl) (by exact h) (by rfl)) (by simp)
theorem st2 {cs : List Int} {bb : Int} (hd : DealOk cs bb) : ∃ (pv : Int) (N : Nat) (cs' : List Int) (b' : Int), pv ∈ [(0 : Int), 2, 3, 7, 101] ∧ 0 < N ∧ N ≤ 10 ∧ DealOk cs' b' ∧
    ST2 (LE sc (.deal cs bb) .no .no .no .no .no .no .no .no .no .no .no .no .no .no .no) = some (.nx (LE sc (.deal cs' b') (.val (.int pv)) (.val (.int (N : Int))) .no .no .no .no .no .no .no .no .no .no .no .no .no)) := by
  have f6 : Fits 6 := show 6 ≤ 16777216 by decide
  obtain ⟨d1, m1, cs1, b1, g1, g2⟩ := of_of (ds := [.int 0, .int 0, .int 2, .int 3, .int 7, .int 101]) hd (by simp) (show 6 < 1000000 by decide)
  have hp : ∃ pv : Int, d1 = .int pv ∧ pv ∈ [(0 : Int), 2, 3, 7, 101] := by
    simp only [List.mem_cons, List.not_mem_nil, or_false] at m1
    rcases m1 with e | e | e | e | e | e
    · exact ⟨0, e, by simp⟩
    · exact ⟨0, e, by simp⟩
    · exact ⟨2, e, by simp⟩
    · exact ⟨3, e, by simp⟩
    · exact ⟨7, e, by simp⟩
    · exact ⟨101, e, by simp⟩
  obtain ⟨pv, rfl, hpv⟩ := hp
  obtain ⟨r, cs2, b2, k1, k2, k3, k4⟩ := any_of (n := 10) g2 (by decide) (by decide)
  obtain ⟨d2, m2, cs3, b3, q1, q2⟩ := of_of (ds := [.int 1, .int 2, .int 3, .int 4, .int 10, .int (1 + r)]) k4 (by simp) (show 6 < 1000000 by decide)
  have hn : ∃ N : Nat, d2 = .int (N : Int) ∧ 0 < N ∧ N ≤ 10 := by
    simp only [List.mem_cons, List.not_mem_nil, or_false] at m2
    rcases m2 with e | e | e | e | e | e
    · exact ⟨1, e, by omega, by omega⟩
    · exact ⟨2, e, by omega, by omega⟩
    · exact ⟨3, e, by omega, by omega⟩
    · exact ⟨4, e, by omega, by omega⟩
    · exact ⟨10, e, by omega, by omega⟩
    · refine ⟨(1 + r).toNat, ?_, by omega, by omega⟩
      rw [e]
      congr 1
      omega
  obtain ⟨N, rfl, h1, h2⟩ := hn
  refine ⟨pv, N, cs3, b3, hpv, h1, h2, q2, ?_⟩
  exact sPar_of (i := 2) (j := 3) (e1 := LE sc (.deal cs1 b1) .no .no .no .no .no .no .no .no .no .no .no .no .no .no .no) (e2 := LE sc (.deal cs3 b3) .no .no .no .no .no .no .no .no .no .no .no .no .no .no .no) (s := .val (.int pv)) (s' := .val (.int (N : Int)))
    (callF_of (consO_of (by rfl) (consO_of (asO_of (vLst_of (by rfl) (by rfl) (by exact f6)) (by rfl)) (by rfl))) (by rfl) (by rfl) (by rfl) (by rfl) (by exact g1) (by rfl))
    (callF_of (consO_of (by rfl) (consO_of (asO_of (vLst_of (consO_of (by rfl) (consO_of (by rfl) (consO_of (by rfl) (consO_of (by rfl) (consO_of (by rfl) (consO_of (asO_of (evP_of (consO_of (by rfl) (consO_of (asO_of (callF_of (by rfl) (by rfl) (by rfl) (by rfl) (by rfl) (by exact k1) (by rfl)) (by rfl)) (by rfl))) (by rfl) (by rfl)) (by rfl)) (by rfl))))))) (by rfl) (by exact f6)) (by rfl)) (by rfl))) (by rfl) (by rfl) (by rfl) (by rfl) (by exact q1) (by rfl)) (by simp)
theorem st3 {cs cs' : List Int} {bb b' : Int} {N : Nat} {os : List Nat} (h : ev_law_order [.deal cs bb, .val (.int N)] = some (.val (uT (nI os)), [.deal cs' b', .no])) : ST3 (LE sc (.deal cs bb) p (.val (.int (N : Int))) .no .no .no .no .no .no .no .no .no .no .no .no .no) = some (.nx (LE sc (.deal cs' b') p (.val (.int (N : Int))) (.val (uT (nI os))) .no .no .no .no .no .no .no .no .no .no .no .no)) :=
  sSet_of (i := 4) (e := LE sc (.deal cs' b') p (.val (.int (N : Int))) .no .no .no .no .no .no .no .no .no .no .no .no .no) (s := .val (uT (nI os))) (callF_of (by rfl) (by rfl) (by rfl) (by rfl) (by rfl) (by exact h) (by rfl)) (by simp)
theorem st4 {cs cs' : List Int} {bb b' : Int} {N : Nat} {os : List Nat} {ps : List (PyData × Bool)} (hps : AllO N ps) (h : ev_law_near_orders [.deal cs bb, .val (.int N), .val (uT (nI os))] = some (.own (.list (ps.map pairD)), [.deal cs' b', .no, .no])) : ∃ x5 x6, ST4 (LE sc (.deal cs bb) p (.val (.int (N : Int))) (.val (uT (nI os))) .no .no .no .no .no .no .no .no .no .no .no .no) = some (.nx (LE sc (.deal cs' b') p (.val (.int (N : Int))) (.val (uT (nI os))) x5 x6 .no .no .no .no .no .no .no .no .no .no)) := by
  have hI : iSeq (asO (callF [true, false, false] ev_law_near_orders (consO (oN 1) (consO (oN 3) (consO (oN 4) (nilO)))))) (LE sc (.deal cs bb) p (.val (.int (N : Int))) (.val (uT (nI os))) .no .no .no .no .no .no .no .no .no .no .no .no) = some (ps.map pairD, LE sc (.deal cs' b') p (.val (.int (N : Int))) (.val (uT (nI os))) .no .no .no .no .no .no .no .no .no .no .no .no) :=
    iSeq_of (asO_of (callF_of (by rfl) (by rfl) (by rfl) (by rfl) (by rfl) (by exact h) (by rfl)) (by rfl)) (by rfl) (by rfl)
  obtain ⟨j', w1, _⟩ := forL_fold (α := PyData × Bool) (S := Unit) (J := Slot × Slot) (g := gT 2 (gConss (gN 5) (gConss (gN 6) (gNils)))) (r := sIf (bOr (bNot (bV (callF [false, false] (ev_law_same 6) (consO (asO (callF [false, false] ev_is_order (consO (oN 3) (consO (oN 5) (nilO))))) (consO (oN 6) (nilO)))))) (bNot (bV (callF [false, false] (ev_law_same 6) (consO (asO (callF [false, false] ev_is_order (rowK 0 2 [1, 0] nilO (consO (oN 5) (consO (oN 3) (nilO)))))) (consO (oN 6) (nilO))))))) (sRet (vO (oC (.bool false)))) (sNext))
    (u := pairD) (W := fun _ j => LE sc (.deal cs' b') p (.val (.int (N : Int))) (.val (uT (nI os))) j.1 j.2 .no .no .no .no .no .no .no .no .no .no) (step := fun _ _ => ()) (P := fun _ _ => True) (l := ps) (s := ()) (j := (.no, .no)) trivial fun t rest s j mt _ => by
      have ht : ev_is_order [.val (.int N), .val t.1] = some (.val (.bool t.2), [.no, .no]) := hps t mt
      have hs : ev_law_same 6 [.val (.bool t.2), .val (.bool t.2)] = some (.val (.bool true), [.no, .no]) := same_bool 5 t.2
      refine ⟨LE sc (.deal cs' b') p (.val (.int (N : Int))) (.val (uT (nI os))) (.val t.1) (.val (.bool t.2)) .no .no .no .no .no .no .no .no .no .no, (.val t.1, .val (.bool t.2)), by rfl, ?_, trivial⟩
      have c1 : (bNot (bV (callF [false, false] (ev_law_same 6) (consO (asO (callF [false, false] ev_is_order (consO (oN 3) (consO (oN 5) (nilO))))) (consO (oN 6) (nilO)))))) (LE sc (.deal cs' b') p (.val (.int (N : Int))) (.val (uT (nI os))) (.val t.1) (.val (.bool t.2)) .no .no .no .no .no .no .no .no .no .no) = some (false, LE sc (.deal cs' b') p (.val (.int (N : Int))) (.val (uT (nI os))) (.val t.1) (.val (.bool t.2)) .no .no .no .no .no .no .no .no .no .no) :=
        bNot_of (b := true) (bV_of (callF_of (consO_of (asO_of (callF_of (by rfl) (by rfl) (by rfl) (by rfl) (by rfl) (by exact ht) (by rfl)) (by rfl)) (by rfl)) (by rfl) (by rfl) (by rfl) (by rfl) (by exact hs) (by rfl)))
      have c2 : (bNot (bV (callF [false, false] (ev_law_same 6) (consO (asO (callF [false, false] ev_is_order (rowK 0 2 [1, 0] nilO (consO (oN 5) (consO (oN 3) (nilO)))))) (consO (oN 6) (nilO)))))) (LE sc (.deal cs' b') p (.val (.int (N : Int))) (.val (uT (nI os))) (.val t.1) (.val (.bool t.2)) .no .no .no .no .no .no .no .no .no .no) = some (false, LE sc (.deal cs' b') p (.val (.int (N : Int))) (.val (uT (nI os))) (.val t.1) (.val (.bool t.2)) .no .no .no .no .no .no .no .no .no .no) :=
        bNot_of (b := true) (bV_of (callF_of (consO_of (asO_of (callF_of (by rfl) (by rfl) (by rfl) (by rfl) (by rfl) (by exact ht) (by rfl)) (by rfl)) (by rfl)) (by rfl) (by rfl) (by rfl) (by rfl) (by exact hs) (by rfl)))
      exact (sIf_f ((bOr_f c1).trans c2)).trans (by rfl)
  exact ⟨j'.1, j'.2, (sFor_of hI).trans w1⟩
theorem st5 {cs : List Int} {bb : Int} {N : Nat} (hd : DealOk cs bb) (hN0 : 0 < N) (hN : N ≤ 10) : ∃ (L : List (List Int)) (bound : Int) (cs' : List Int) (b' : Int), SomeOk N bound L ∧ L.length ≤ 15 ∧ DealOk cs' b' ∧
    ST5 (LE sc (.deal cs bb) p (.val (.int (N : Int))) o v5 v6 .no .no .no .no .no .no .no .no .no .no) = some (.nx (LE sc (.deal cs' b') p (.val (.int (N : Int))) o v5 v6 (.own (.list (L.map uT))) .no .no .no .no .no .no .no .no .no)) := by
  have f3 : Fits 3 := show 3 ≤ 16777216 by decide
  obtain ⟨d1, m1, cs1, b1, g1, g2⟩ := of_of (ds := [.int 2, .int 6, .int 14]) hd (by simp) (show 3 < 1000000 by decide)
  obtain ⟨d2, m2, cs2, b2, k1, k2⟩ := of_of (ds := [.int 2, .int 4, .int 41]) g2 (by simp) (show 3 < 1000000 by decide)
  have h1 : ∃ M : Nat, d1 = .int (M : Int) ∧ M ≤ 14 := by
    simp only [List.mem_cons, List.not_mem_nil, or_false] at m1
    rcases m1 with e | e | e
    · exact ⟨2, e, by omega⟩
    · exact ⟨6, e, by omega⟩
    · exact ⟨14, e, by omega⟩
  obtain ⟨M, rfl, hM⟩ := h1
  have h2 : ∃ B : Int, d2 = .int B ∧ 0 < B ∧ B < 1000 := by
    simp only [List.mem_cons, List.not_mem_nil, or_false] at m2
    rcases m2 with e | e | e
    · exact ⟨2, e, by decide, by decide⟩
    · exact ⟨4, e, by decide, by decide⟩
    · exact ⟨41, e, by decide, by decide⟩
  obtain ⟨B, rfl, hB0, hB⟩ := h2
  obtain ⟨L, hL, hLl, cs3, b3, q1, q2⟩ := some_of (n := N) (many := M) (bound := B) k2 hB0 (by omega) hN0 (by omega) (by omega)
  refine ⟨L, B, cs3, b3, hL, by omega, q1, ?_⟩
  exact sSet_of (i := 7) (e := LE sc (.deal cs3 b3) p (.val (.int (N : Int))) o v5 v6 .no .no .no .no .no .no .no .no .no .no) (s := .own (.list (L.map uT))) (callF_of (consO_of (by rfl) (consO_of (by rfl) (consO_of (asO_of (callF_of (consO_of (by rfl) (consO_of (asO_of (vLst_of (by rfl) (by rfl) (by exact f3)) (by rfl)) (by rfl))) (by rfl) (by rfl) (by rfl) (by rfl) (by exact g1) (by rfl)) (by rfl)) (consO_of (asO_of (callF_of (consO_of (by rfl) (consO_of (asO_of (vLst_of (by rfl) (by rfl) (by exact f3)) (by rfl)) (by rfl))) (by rfl) (by rfl) (by rfl) (by rfl) (by exact k1) (by rfl)) (by rfl)) (by rfl))))) (by rfl) (by rfl) (by rfl) (by rfl) (by exact q2) (by rfl)) (by simp)
theorem st6 {cs : List Int} {bb bound : Int} {N : Nat} {os : List Nat} {L : List (List Int)} (hd : DealOk cs bb) (hp : os.Perm (List.range N)) (hN : N ≤ 10) (hL : SomeOk N bound L) (hl : L.length ≤ 15) : ∃ (s7 : Slot) (cs' : List Int) (b' : Int), (s7 = .val (.list (L.map uT)) ∨ s7 = .own (.list (L.map uT))) ∧ DealOk cs' b' ∧
    ST6 (LE sc (.deal cs bb) p n (.val (uT (nI os))) v5 v6 (.own (.list (L.map uT))) .no .no .no .no .no .no .no .no .no) = some (.nx (LE sc (.deal cs' b') p n (.val (uT (nI os))) v5 v6 s7 (.val (.tuple ((srt os L).map uT))) .no .no .no .no .no .no .no .no)) := by
  have hlo : os.length = N := by rw [hp.length_eq, List.length_range]
  have hr : ∀ a ∈ L, ∀ o ∈ os, o < a.length := fun a m o mo => by
    rw [(hL.2.1 a m).1]
    exact List.mem_range.mp (hp.mem_iff.mp mo)
  have hf : Fits os.length := by show _ ≤ 16777216; omega
  have hfl : Fits L.length := by show _ ≤ 16777216; omega
  have ha1 := along_of (S := .list (L.map uT)) (by rfl) hr hf hfl
  have ha2 := along_of (S := .tuple (L.map uT)) (by rfl) hr hf hfl
  obtain ⟨r, cs1, b1, g1, g2, g3, g4⟩ := any_of (n := 2) hd (by decide) (by decide)
  have hc : (bV (ev2 gEq (asO (callF [true, false] anyF (consO (oN 1) (consO (oC (.int 2)) (nilO))))) (oC (.int 0)))) (LE sc (.deal cs bb) p n (.val (uT (nI os))) v5 v6 (.own (.list (L.map uT))) .no .no .no .no .no .no .no .no .no) = some (decide (r = 0), LE sc (.deal cs1 b1) p n (.val (uT (nI os))) v5 v6 (.own (.list (L.map uT))) .no .no .no .no .no .no .no .no .no) :=
    bV_of (evP_of (consO_of (asO_of (callF_of (by rfl) (by rfl) (by rfl) (by rfl) (by rfl) (by exact g1) (by rfl)) (by rfl)) (by rfl)) (by rfl) (by exact gEq_int))
  by_cases h0 : r = 0
  · rw [decide_eq_true h0] at hc
    refine ⟨.val (.list (L.map uT)), cs1, b1, .inl rfl, g4, ?_⟩
    exact sSet_of (i := 8) (e := LE sc (.deal cs1 b1) p n (.val (uT (nI os))) v5 v6 (.val (.list (L.map uT))) .no .no .no .no .no .no .no .no .no) (s := .val (.tuple ((srt os L).map uT))) (callF_of (consO_of (by rfl) (consO_of (asO_of ((vIte_t hc).trans (by rfl)) (by rfl)) (by rfl))) (by rfl) (by rfl) (by rfl) (by rfl) (by exact ha1) (by rfl)) (by simp)
  · rw [decide_eq_false h0] at hc
    refine ⟨.own (.list (L.map uT)), cs1, b1, .inr rfl, g4, ?_⟩
    exact sSet_of (i := 8) (e := LE sc (.deal cs1 b1) p n (.val (uT (nI os))) v5 v6 (.own (.list (L.map uT))) .no .no .no .no .no .no .no .no .no) (s := .val (.tuple ((srt os L).map uT))) (callF_of (consO_of (by rfl) (consO_of (asO_of ((vIte_f hc).trans (evP_of (by rfl) (by rfl) (by rfl))) (by rfl)) (by rfl))) (by rfl) (by rfl) (by rfl) (by rfl) (by exact ha2) (by rfl)) (by simp)
end
end Pf
/-! PlP: the law's stages 7 to 12. -/
namespace Pf
open PySem PySem.Spec
section
variable {sc dl' p n o v5 v6 v7 v8 v9 f g a b pr ld v16 : Slot} {N : Nat} {os : List Nat} {L T : List (List Int)} {bound : Int}
theorem len_uT (T : List (List Int)) : gLen [.tuple (T.map uT)] = some (.val (.int (T.length : Int))) ∧ gLen [.list (T.map uT)] = some (.val (.int (T.length : Int))) := by
  constructor
  · show some (Slot.val (PyData.int ((T.map uT).length : Int))) = _
    rw [List.length_map]
  · show some (Slot.val (PyData.int ((T.map uT).length : Int))) = _
    rw [List.length_map]
theorem ne_nil : gNe [.list [], .list []] = some (.val (.bool false)) := (gNe_of (sh_lI []) (sh_lI [])).trans (by rw [eqv_lI]; simp)
theorem st7 (hT : T.Perm L) (hl : L.length ≤ 15) (h7 : v7 = .val (.list (L.map uT)) ∨ v7 = .own (.list (L.map uT))) :
    ST7 (LE sc dl' p n o v5 v6 v7 (.val (.tuple (T.map uT))) .no .no .no .no .no .no .no .no) = some (.nx (LE sc dl' p n o v5 v6 (.val (.list (L.map uT))) (.val (.tuple (T.map uT))) .no .no .no .no .no .no .no .no)) := by
  have f0 : Fits 0 := show 0 ≤ 16777216 by decide
  have hlen : T.length = L.length := hT.length_eq
  have c1 : (bV (ev2 gNe (asO (evP gLen (consO (oN 8) (nilO)))) (asO (evP gLen (consO (oN 7) (nilO)))))) (LE sc dl' p n o v5 v6 v7 (.val (.tuple (T.map uT))) .no .no .no .no .no .no .no .no) = some (false, LE sc dl' p n o v5 v6 v7 (.val (.tuple (T.map uT))) .no .no .no .no .no .no .no .no) := by
    have hg : gNe [.int (T.length : Int), .int (L.length : Int)] = some (.val (.bool false)) := gNe_int.trans (by simp [hlen])
    rcases h7 with rfl | rfl
    · exact bV_of (evP_of (consO_of (asO_of (evP_of (by rfl) (by rfl) (by exact (len_uT T).1)) (by rfl)) (consO_of (asO_of (evP_of (by rfl) (by rfl) (by exact (len_uT L).2)) (by rfl)) (by rfl))) (by rfl) (by exact hg))
    · exact bV_of (evP_of (consO_of (asO_of (evP_of (by rfl) (by rfl) (by exact (len_uT T).1)) (by rfl)) (consO_of (asO_of (evP_of (by rfl) (by rfl) (by exact (len_uT L).2)) (by rfl)) (by rfl))) (by rfl) (by exact hg))
  have hI : iSeq (oN 7) (LE sc dl' p n o v5 v6 v7 (.val (.tuple (T.map uT))) .no .no .no .no .no .no .no .no) = some (L.map uT, LE sc dl' p n o v5 v6 (.val (.list (L.map uT))) (.val (.tuple (T.map uT))) .no .no .no .no .no .no .no .no) := by
    rcases h7 with rfl | rfl <;> rfl
  have hv : vLc (iSeq (oN 7)) (gN 9) (bV (ev2 gNotIn (oN 9) (oN 8))) (oN 9) [9] (LE sc dl' p n o v5 v6 v7 (.val (.tuple (T.map uT))) .no .no .no .no .no .no .no .no) = some (.own (.list []), LE sc dl' p n o v5 v6 (.val (.list (L.map uT))) (.val (.tuple (T.map uT))) .no .no .no .no .no .no .no .no) := by
    refine vLc_same (out := []) (LE sc dl' p n o v5 v6 (.val (.list (L.map uT))) (.val (.tuple (T.map uT))) .no .no .no .no .no .no .no .no) hI ?_ f0 (by rfl)
    have e : ([] : List PyData) = L.filterMap fun _ => (none : Option PyData) := by simp
    rw [e]
    refine lcF_mapm fun x m => ?_
    have hm : x ∈ T := hT.mem_iff.mpr m
    have hg : gNotIn [uT x, .tuple (T.map uT)] = some (.val (.bool false)) := by rw [notIn_tuple, decide_eq_true hm]; rfl
    exact lcT_no (by rfl) (bV_of (evP_of (by rfl) (by rfl) (by exact hg))) (by rfl)
  exact (sIf_f ((bOr_f (e := LE sc dl' p n o v5 v6 v7 (.val (.tuple (T.map uT))) .no .no .no .no .no .no .no .no) (by rfl)).trans ((bOr_f c1).trans (bV_of (evP_of (consO_of (asO_of hv (by rfl)) (consO_of (asO_of (vLst_of (by rfl) (by rfl) (by exact f0)) (by rfl)) (by rfl))) (by rfl) (by exact ne_nil)))))).trans (by rfl)
theorem same_TT {T : List (List Int)} (hr : ∀ x ∈ T, x.length ≤ 100) (hl : T.length ≤ 1000) (k : Nat) : SameOk (k + 3) (.tuple (T.map uT)) := same_tup (fun d m => by
  obtain ⟨x, mx, rfl⟩ := List.mem_map.mp m
  exact same_uT k (Nat.le_trans (hr x mx) (by decide))) (by rw [List.length_map]; omega)
theorem st8 (hp : os.Perm (List.range N)) (hN : N ≤ 10) (hL : SomeOk N bound L) (hl : L.length ≤ 15) (hT : T = srt os L) :
    ST8 (LE sc dl' p n (.val (uT (nI os))) v5 v6 (.val (.list (L.map uT))) (.val (.tuple (T.map uT))) .no .no .no .no .no .no .no .no) = some (.nx (LE sc dl' p n (.val (uT (nI os))) v5 v6 (.val (.list (L.map uT))) (.val (.tuple (T.map uT))) .no .no .no .no .no .no .no .no)) := by
  have f0 : Fits 0 := show 0 ≤ 16777216 by decide
  have hTp : T.Perm L := by rw [hT]; exact srt_perm os L
  have hlen : T.length = L.length := hTp.length_eq
  have hpos : 0 < T.length := by rw [hlen]; exact List.length_pos_iff.mpr hL.1
  have hrow : ∀ x ∈ T, x.length = N := fun x m => (hL.2.1 x (hTp.mem_iff.mp m)).1
  have hlo : os.length = N := by rw [hp.length_eq, List.length_range]
  have hro : ∀ x ∈ T, ∀ y ∈ os, y < x.length := fun x m y my => by
    rw [hrow x m]
    exact List.mem_range.mp (hp.mem_iff.mp my)
  have hsort : T.Pairwise fun x y => dl os y x = false := by rw [hT]; exact srt_sorted os L
  have hnd : T.Nodup := hTp.nodup_iff.mpr hL.2.2
  obtain ⟨m, hm⟩ : ∃ m : Nat, T.length = m + 1 := ⟨T.length - 1, by omega⟩
  have hsub : Pf.gSub [.int (T.length : Int), .int 1] = some (.val (.int (Int.ofNat m))) := by
    show some (Slot.val (PyData.int ((T.length : Int) - 1))) = _
    rw [hm]
    congr 3
    show ((m + 1 : Nat) : Int) - 1 = (m : Int)
    omega
  have hI : Pf.iRng1 (asO (ev2 Pf.gSub (asO (evP gLen (consO (oN 8) (nilO)))) (oC (.int 1)))) (LE sc dl' p n (.val (uT (nI os))) v5 v6 (.val (.list (L.map uT))) (.val (.tuple (T.map uT))) .no .no .no .no .no .no .no .no) = some ((List.range m).map fun i => .int (Int.ofNat i), LE sc dl' p n (.val (uT (nI os))) v5 v6 (.val (.list (L.map uT))) (.val (.tuple (T.map uT))) .no .no .no .no .no .no .no .no) := by
    rw [← rng_nat]
    exact iRng1_of (asO_of (evP_of (consO_of (asO_of (evP_of (by rfl) (by rfl) (by exact (len_uT T).1)) (by rfl)) (by rfl)) (by rfl) (by exact hsub)) (by rfl)) (by rfl) (small_nat (by omega))
  have hv : vLc (Pf.iRng1 (asO (ev2 Pf.gSub (asO (evP gLen (consO (oN 8) (nilO)))) (oC (.int 1))))) (gN 17) (bNot (bV (callF [false, false, false] ev_law_is_ahead (consO (oN 4) (consO (asO (ev2 gSub1 (oN 8) (oN 17))) (consO (asO (ev2 gSub1 (oN 8) (asO (ev2 gAdd (oN 17) (oC (.int 1)))))) (nilO))))))) (oN 17) [17] (LE sc dl' p n (.val (uT (nI os))) v5 v6 (.val (.list (L.map uT))) (.val (.tuple (T.map uT))) .no .no .no .no .no .no .no .no) =
      some (.own (.list []), LE sc dl' p n (.val (uT (nI os))) v5 v6 (.val (.list (L.map uT))) (.val (.tuple (T.map uT))) .no .no .no .no .no .no .no .no) := by
    refine vLc_same (out := []) (LE sc dl' p n (.val (uT (nI os))) v5 v6 (.val (.list (L.map uT))) (.val (.tuple (T.map uT))) .no .no .no .no .no .no .no .no) hI ?_ f0 (by rfl)
    have e : ([] : List PyData) = (List.range m).filterMap fun _ => (none : Option PyData) := by simp
    rw [e]
    refine lcF_mapm fun i mi => ?_
    have hi : i < m := by simpa using mi
    have h1 : i < T.length := by omega
    have h2 : i + 1 < T.length := by omega
    have s1 : gSub1 [.tuple (T.map uT), .int (Int.ofNat i)] = some (.val (uT T[i])) := by
      have := sub_tup (l := T.map uT) (i := i) (by rw [List.length_map]; exact h1)
      rw [this, List.getElem_map]
    have s2 : gSub1 [.tuple (T.map uT), .int (Int.ofNat i + 1)] = some (.val (uT T[i + 1])) := by
      have := sub_tup (l := T.map uT) (i := i + 1) (by rw [List.length_map]; exact h2)
      rw [List.getElem_map] at this
      exact this
    have hlt : lexI (rk os T[i]) (rk os T[i + 1]) = true := by
      rw [← dl_rk hp (hrow _ (List.getElem_mem h1)) (hrow _ (List.getElem_mem h2))]
      have h3 := List.pairwise_iff_getElem.mp hsort i (i + 1) h1 h2 (by omega)
      have h4 := List.pairwise_iff_getElem.mp hnd i (i + 1) h1 h2 (by omega)
      cases e5 : dl os T[i] T[i + 1] with
      | true => rfl
      | false => exact absurd (dl_total e5 h3) h4
    have ha := law_is_ahead_of (os := os) (a := T[i]) (b := T[i + 1]) (hro _ (List.getElem_mem h1)) (hro _ (List.getElem_mem h2))
    rw [hlt] at ha
    exact lcT_no (by rfl) (bNot_of (b := true) (bV_of (callF_of (consO_of (by rfl) (consO_of (asO_of (evP_of (by rfl) (by rfl) (by exact s1)) (by rfl)) (consO_of (asO_of (evP_of (consO_of (by rfl) (consO_of (asO_of (evP_of (by rfl) (by rfl) (by rfl)) (by rfl)) (by rfl))) (by rfl) (by exact s2)) (by rfl)) (by rfl)))) (by rfl) (by rfl) (by rfl) (by rfl) (by exact ha) (by rfl)))) (by rfl)
  have c1 : (bV (ev2 gNe (asO (vLc (Pf.iRng1 (asO (ev2 Pf.gSub (asO (evP gLen (consO (oN 8) (nilO)))) (oC (.int 1))))) (gN 17) (bNot (bV (callF [false, false, false] ev_law_is_ahead (consO (oN 4) (consO (asO (ev2 gSub1 (oN 8) (oN 17))) (consO (asO (ev2 gSub1 (oN 8) (asO (ev2 gAdd (oN 17) (oC (.int 1)))))) (nilO))))))) (oN 17) [17])) (asO (vLst (nilO))))) (LE sc dl' p n (.val (uT (nI os))) v5 v6 (.val (.list (L.map uT))) (.val (.tuple (T.map uT))) .no .no .no .no .no .no .no .no) = some (false, LE sc dl' p n (.val (uT (nI os))) v5 v6 (.val (.list (L.map uT))) (.val (.tuple (T.map uT))) .no .no .no .no .no .no .no .no) :=
    bV_of (evP_of (consO_of (asO_of hv (by rfl)) (consO_of (asO_of (vLst_of (by rfl) (by rfl) (by exact f0)) (by rfl)) (by rfl))) (by rfl) (by exact ne_nil))
  have hal : ev_along [.val (uT (nI os)), .val (.tuple (T.map uT).reverse)] = some (.val (.tuple (T.map uT)), [.no, .no]) := by
    have h := along_of (os := os) (l := T.reverse) (S := .tuple (T.map uT).reverse) (by rw [List.map_reverse]; rfl) (fun x m => hro x (List.mem_reverse.mp m)) (by show _ ≤ 16777216; omega) (by rw [List.length_reverse]; show _ ≤ 16777216; omega)
    have e : srt os T.reverse = T := by
      rw [srt_unique ((List.reverse_perm T).trans hTp), ← hT]
    rw [e] at h
    exact h
  have hsame : ev_law_same 6 [.val (.tuple (T.map uT)), .val (.tuple (T.map uT))] = some (.val (.bool true), [.no, .no]) := same_TT (fun x m => by rw [hrow x m]; omega) (by omega) 3
  exact (sIf_f ((bOr_f c1).trans (bNot_of (b := true) (bV_of (callF_of (consO_of (asO_of (callF_of (rs := rowK 0 2 [1, 0] nilO (consO (asO (vRev (oN 8))) (consO (oN 4) (nilO)))) (by rfl) (by rfl) (by rfl) (by rfl) (by rfl) (by exact hal) (by rfl)) (by rfl)) (by rfl)) (by rfl) (by rfl) (by rfl) (by rfl) (by exact hsame) (by rfl)))))).trans (by rfl)
theorem st9 (hp : os.Perm (List.range N)) (hN : N ≤ 10) (hL : SomeOk N bound L) (hl : L.length ≤ 15) : ∃ x9 x16, ST9 (LE sc dl' p n (.val (uT (nI os))) v5 v6 (.val (.list (L.map uT))) v8 .no .no .no .no .no .no .no .no) = some (.nx (LE sc dl' p n (.val (uT (nI os))) v5 v6 (.val (.list (L.map uT))) v8 x9 .no .no .no .no .no .no x16)) := by
  have hlo : os.length = N := by rw [hp.length_eq, List.length_range]
  have hro : ∀ x ∈ L, ∀ y ∈ os, y < x.length := fun x m y my => by
    rw [(hL.2.1 x m).1]
    exact List.mem_range.mp (hp.mem_iff.mp my)
  have hf : Fits os.length := by show _ ≤ 16777216; omega
  have inner : ∀ (x : List Int) (j : Slot), x ∈ L → ∃ j', forL (gN 16) (sIf (bNot (bV (callF [false, false] (ev_law_same 6) (consO (asO (callF [false, false, false] ev_is_ahead (consO (oN 4) (consO (oN 9) (consO (oN 16) (nilO)))))) (consO (asO (callF [false, false, false] ev_law_is_ahead (consO (oN 4) (consO (oN 9) (consO (oN 16) (nilO)))))) (nilO)))))) (sRet (vO (oC (.bool false)))) (sNext)) (L.map uT)
      (LE sc dl' p n (.val (uT (nI os))) v5 v6 (.val (.list (L.map uT))) v8 (.val (uT x)) .no .no .no .no .no .no j) = some (.nx (LE sc dl' p n (.val (uT (nI os))) v5 v6 (.val (.list (L.map uT))) v8 (.val (uT x)) .no .no .no .no .no .no j')) := fun x j mx => by
    obtain ⟨j', w, _⟩ := forL_fold (α := List Int) (S := Unit) (J := Slot) (g := gN 16) (r := sIf (bNot (bV (callF [false, false] (ev_law_same 6) (consO (asO (callF [false, false, false] ev_is_ahead (consO (oN 4) (consO (oN 9) (consO (oN 16) (nilO)))))) (consO (asO (callF [false, false, false] ev_law_is_ahead (consO (oN 4) (consO (oN 9) (consO (oN 16) (nilO)))))) (nilO)))))) (sRet (vO (oC (.bool false)))) (sNext))
      (u := uT) (W := fun _ j => LE sc dl' p n (.val (uT (nI os))) v5 v6 (.val (.list (L.map uT))) v8 (.val (uT x)) .no .no .no .no .no .no j) (step := fun _ _ => ()) (P := fun _ _ => True) (l := L) (s := ()) (j := j) trivial fun y rest s j my _ => by
        have h1 := is_ahead_of (hro x mx) (hro y my) hf
        have h2 := law_is_ahead_of (hro x mx) (hro y my)
        have hs : ev_law_same 6 [.val (.bool (lexI (rk os x) (rk os y))), .val (.bool (lexI (rk os x) (rk os y)))] = some (.val (.bool true), [.no, .no]) := same_bool 5 _
        refine ⟨LE sc dl' p n (.val (uT (nI os))) v5 v6 (.val (.list (L.map uT))) v8 (.val (uT x)) .no .no .no .no .no .no (.val (uT y)), .val (uT y), by rfl, ?_, trivial⟩
        exact .trans (sIf_f (e := LE sc dl' p n (.val (uT (nI os))) v5 v6 (.val (.list (L.map uT))) v8 (.val (uT x)) .no .no .no .no .no .no (.val (uT y))) (bNot_of (b := true) (bV_of (callF_of (consO_of (asO_of (callF_of (by rfl) (by rfl) (by rfl) (by rfl) (by rfl) (by exact h1) (by rfl)) (by rfl)) (consO_of (asO_of (callF_of (by rfl) (by rfl) (by rfl) (by rfl) (by rfl) (by exact h2) (by rfl)) (by rfl)) (by rfl))) (by rfl) (by rfl) (by rfl) (by rfl) (by exact hs) (by rfl))))) (by rfl)
    exact ⟨j', w⟩
  have hI : iSeq (asO (vCut (oN 7) none (some (oC (.int 5))))) (LE sc dl' p n (.val (uT (nI os))) v5 v6 (.val (.list (L.map uT))) v8 .no .no .no .no .no .no .no .no) = some ((L.take 5).map uT, LE sc dl' p n (.val (uT (nI os))) v5 v6 (.val (.list (L.map uT))) v8 .no .no .no .no .no .no .no .no) := by
    have e : (L.take 5).map uT = cutD (L.map uT) none (some ((5 : Nat) : Int)) := by rw [cut_take, List.map_take]
    rw [e]
    rfl
  obtain ⟨j', w, _⟩ := forL_fold (α := List Int) (S := Unit) (J := Slot × Slot) (g := gN 9) (r := sFor (iSeq (oN 7)) (gN 16) (sIf (bNot (bV (callF [false, false] (ev_law_same 6) (consO (asO (callF [false, false, false] ev_is_ahead (consO (oN 4) (consO (oN 9) (consO (oN 16) (nilO)))))) (consO (asO (callF [false, false, false] ev_law_is_ahead (consO (oN 4) (consO (oN 9) (consO (oN 16) (nilO)))))) (nilO)))))) (sRet (vO (oC (.bool false)))) (sNext)))
    (u := uT) (W := fun _ j => LE sc dl' p n (.val (uT (nI os))) v5 v6 (.val (.list (L.map uT))) v8 j.1 .no .no .no .no .no .no j.2) (step := fun _ _ => ()) (P := fun _ _ => True) (l := L.take 5) (s := ()) (j := (.no, .no)) trivial fun x rest s j mx _ => by
      obtain ⟨j', w⟩ := inner x j.2 (List.mem_of_mem_take mx)
      exact ⟨LE sc dl' p n (.val (uT (nI os))) v5 v6 (.val (.list (L.map uT))) v8 (.val (uT x)) .no .no .no .no .no .no j.2, (.val (uT x), j'), by rfl, (sFor_of (by rfl)).trans w, trivial⟩
  exact ⟨j'.1, j'.2, (sFor_of hI).trans w⟩
theorem st10 {cs : List Int} {bb pv : Int} (hd : DealOk cs bb) (hp0 : 0 ≤ pv) (hp1 : pv ≤ 101) (hN0 : 0 < N) (hN : N ≤ 10) : ∃ (F G : Asc) (cs' : List Int) (b' : Int), PolyF N F ∧ PolyF N G ∧ F.length ≤ 10 ∧ G.length ≤ 10 ∧ DealOk cs' b' ∧
    ST10 (LE sc (.deal cs bb) (.val (.int pv)) (.val (.int (N : Int))) o v5 v6 v7 v8 v9 .no .no .no .no .no .no v16) = some (.nx (LE sc (.deal cs' b') (.val (.int pv)) (.val (.int (N : Int))) o v5 v6 v7 v8 v9 (.val (pD (gath pv F))) (.val (pD (gath pv G))) .no .no .no .no v16)) := by
  obtain ⟨r1, cs1, b1, g1, g2, g3, g4⟩ := any_of (n := 7) hd (by decide) (by decide)
  obtain ⟨m1, rfl⟩ := toNat_of g2
  obtain ⟨F, hF, hFl, cs2, b2, k1, k2⟩ := poly_of (p := pv) (n := N) (many := m1) g4 hp0 hp1 hN0 (by omega) (by omega)
  obtain ⟨r2, cs3, b3, q1, q2, q3, q4⟩ := any_of (n := 7) k1 (by decide) (by decide)
  obtain ⟨m2, rfl⟩ := toNat_of q2
  obtain ⟨G, hG, hGl, cs4, b4, w1, w2⟩ := poly_of (p := pv) (n := N) (many := m2) q4 hp0 hp1 hN0 (by omega) (by omega)
  refine ⟨F, G, cs4, b4, hF, hG, by omega, by omega, w1, ?_⟩
  exact sPar_of (i := 10) (j := 11) (e1 := LE sc (.deal cs2 b2) (.val (.int pv)) (.val (.int (N : Int))) o v5 v6 v7 v8 v9 .no .no .no .no .no .no v16) (e2 := LE sc (.deal cs4 b4) (.val (.int pv)) (.val (.int (N : Int))) o v5 v6 v7 v8 v9 .no .no .no .no .no .no v16) (s := .val (pD (gath pv F))) (s' := .val (pD (gath pv G)))
    (callF_of (consO_of (by rfl) (consO_of (by rfl) (consO_of (by rfl) (consO_of (asO_of (callF_of (by rfl) (by rfl) (by rfl) (by rfl) (by rfl) (by exact g1) (by rfl)) (by rfl)) (consO_of (by rfl) (by rfl)))))) (by rfl) (by rfl) (by rfl) (by rfl) (by exact k2) (by rfl))
    (callF_of (consO_of (by rfl) (consO_of (by rfl) (consO_of (by rfl) (consO_of (asO_of (callF_of (by rfl) (by rfl) (by rfl) (by rfl) (by rfl) (by exact q1) (by rfl)) (by rfl)) (consO_of (by rfl) (by rfl)))))) (by rfl) (by rfl) (by rfl) (by rfl) (by exact w2) (by rfl)) (by simp)
end
end Pf
/-! PlQ: the law's end. -/
namespace Pf
open PySem PySem.Spec
theorem sUnp_of {g : EvG} {r : EvV} {env e e' : Env1} {s : Slot} {d : PyData} (h1 : r env = some (s, e)) (h2 : s.dat = some d) (h3 : g d e = some e') : sUnp g r env = some (.nx e') := by
  unfold sUnp
  rw [h1]
  simp only [Option.bind_some]
  rw [h2]
  simp only [Option.bind_some]
  rw [h3]
  rfl
section
variable {sc dl' n v5 v6 v7 v8 v9 v16 : Slot} {N : Nat} {os : List Nat} {pv : Int} {P Q : Asc}
theorem head_best (hp : os.Perm (List.range N)) {l : List (List Int)} (hl : ∀ a ∈ l, a.length = N) : hdD (srt os l) = oD (best os l) := by
  by_cases h : l = []
  · subst h
    rw [hd_nil]
    rfl
  · obtain ⟨m, h1, h2⟩ := best_max hp hl h
    rw [h1, hd_max h2]
    rfl
theorem same_oD {x : Option (List Int)} (h : ∀ a, x = some a → a.length ≤ 100) (k : Nat) : SameOk (k + 2) (oD x) := by
  cases x with
  | none => exact same_non (k + 1)
  | some a => exact same_uT k (Nat.le_trans (h a rfl) (by decide))
theorem row_keys (gP : PolyG N pv P) : ∀ a ∈ P.map (·.1), a.length = N := fun x m => by
  obtain ⟨t, mt, rfl⟩ := List.mem_map.mp m
  exact gP.row t mt
theorem best_len (hp : os.Perm (List.range N)) (hN : N ≤ 10) {l : List (List Int)} (hl : ∀ a ∈ l, a.length = N) : ∀ a, best os l = some a → a.length ≤ 100 := fun a e => by
  by_cases h : l = []
  · subst h; cases e
  · obtain ⟨m, h1, h2⟩ := best_max hp hl h
    rw [h1] at e
    cases e
    rw [hl _ h2.1]
    omega
theorem ro_of (hp : os.Perm (List.range N)) (gP : PolyG N pv P) : ∀ t ∈ P, ∀ o ∈ os, o < t.1.length := fun t m o mo => by
  rw [gP.row t m]
  exact List.mem_range.mp (hp.mem_iff.mp mo)
abbrev LF (sc dl' n : Slot) (os : List Nat) (pv : Int) (P Q : Asc) (v5 v6 v7 v8 v9 a b pr ld v16 : Slot) : Env1 := LE sc dl' (.val (.int pv)) n (.val (uT (nI os))) v5 v6 v7 v8 v9 (.val (pD P)) (.val (pD Q)) a b pr ld v16
theorem st11 (hp : os.Perm (List.range N)) (gP : PolyG N pv P) (gQ : PolyG N pv Q) : ST11 (LF sc dl' n os pv P Q v5 v6 v7 v8 v9 .no .no .no .no v16) = some (.nx (LF sc dl' n os pv P Q v5 v6 v7 v8 v9 (.val (oD (best os (P.map (·.1))))) (.val (oD (best os (Q.map (·.1))))) .no .no v16)) := by
  have f2 : Fits 2 := show 2 ≤ 16777216 by decide
  have h1 := due_head_of (os := os) (ro_of hp gP)
  have h2 := due_head_of (os := os) (ro_of hp gQ)
  exact sUnp_of (e := LF sc dl' n os pv P Q v5 v6 v7 v8 v9 .no .no .no .no v16) (s := .val (.tuple [oD (best os (P.map (·.1))), oD (best os (Q.map (·.1)))])) (vTup_of (consO_of (asO_of (callF_of (by rfl) (by rfl) (by rfl) (by rfl) (by rfl) (by exact h1) (by rfl)) (by rfl)) (consO_of (asO_of (callF_of (by rfl) (by rfl) (by rfl) (by rfl) (by rfl) (by exact h2) (by rfl)) (by rfl)) (by rfl))) (by rfl) (by exact f2)) (by rfl) (by rfl)
theorem st12 (hp : os.Perm (List.range N)) (hN : N ≤ 10) (gP : PolyG N pv P) (gQ : PolyG N pv Q) (lP : P.length ≤ 10) (lQ : Q.length ≤ 10) :
    ST12 (LF sc dl' n os pv P Q v5 v6 v7 v8 v9 (.val (oD (best os (P.map (·.1))))) (.val (oD (best os (Q.map (·.1))))) .no .no v16) = some (.nx (LF sc dl' n os pv P Q v5 v6 v7 v8 v9 (.val (oD (best os (P.map (·.1))))) (.val (oD (best os (Q.map (·.1))))) .no .no v16)) := by
  have f0 : Fits 0 := show 0 ≤ 16777216 by decide
  have hlo : os.length = N := by rw [hp.length_eq, List.length_range]
  have hf : Fits os.length := by show _ ≤ 16777216; omega
  have h1 := head_of (ro_of hp gP) hf (by show _ ≤ 16777216; omega)
  have h2 := head_of (ro_of hp gQ) hf (by show _ ≤ 16777216; omega)
  rw [head_best hp (row_keys gP)] at h1
  rw [head_best hp (row_keys gQ)] at h2
  have h3 := head_of (os := os) (P := []) (by simp) hf (by show _ ≤ 16777216; simp)
  have h3 : ev_head [.val (.tuple []), .val (uT (nI os))] = some (.val .none, [.no, .no]) := by
    have e : hdD (srt os (([] : Asc).map (·.1))) = .none := hd_nil os
    rw [e] at h3
    exact h3
  have s1 : ev_law_same 6 [.val (oD (best os (P.map (·.1)))), .val (oD (best os (P.map (·.1))))] = some (.val (.bool true), [.no, .no]) := same_oD (best_len hp hN (row_keys gP)) 4
  have s2 : ev_law_same 6 [.val (oD (best os (Q.map (·.1)))), .val (oD (best os (Q.map (·.1))))] = some (.val (.bool true), [.no, .no]) := same_oD (best_len hp hN (row_keys gQ)) 4
  generalize oD (best os (P.map (·.1))) = x at h1 s1 ⊢
  generalize oD (best os (Q.map (·.1))) = y at h2 s2 ⊢
  have c1 := bNot_of (b := true) (bV_of (env := LF sc dl' n os pv P Q v5 v6 v7 v8 v9 (.val x) (.val y) .no .no v16) (r := callF [false, false] (ev_law_same 6) (consO (asO (callF [false, false] ev_head (consO (oN 10) (consO (oN 4) (nilO))))) (consO (oN 12) (nilO)))) (e := LF sc dl' n os pv P Q v5 v6 v7 v8 v9 (.val x) (.val y) .no .no v16) (callF_of (consO_of (asO_of (callF_of (by rfl) (by rfl) (by rfl) (by rfl) (by rfl) (by exact h1) (by rfl)) (by rfl)) (by rfl)) (by rfl) (by rfl) (by rfl) (by rfl) (by exact s1) (by rfl)))
  have c2 := bNot_of (b := true) (bV_of (env := LF sc dl' n os pv P Q v5 v6 v7 v8 v9 (.val x) (.val y) .no .no v16) (r := callF [false, false] (ev_law_same 6) (consO (asO (callF [false, false] ev_head (rowK 0 2 [1, 0] nilO (consO (oN 4) (consO (oN 11) (nilO)))))) (consO (oN 13) (nilO)))) (e := LF sc dl' n os pv P Q v5 v6 v7 v8 v9 (.val x) (.val y) .no .no v16) (callF_of (consO_of (asO_of (callF_of (by rfl) (by rfl) (by rfl) (by rfl) (by rfl) (by exact h2) (by rfl)) (by rfl)) (by rfl)) (by rfl) (by rfl) (by rfl) (by rfl) (by exact s2) (by rfl)))
  have c3 : (bV (ev2 gIsNot (asO (callF [false, false] ev_head (consO (asO (vTup (nilO))) (consO (oN 4) (nilO))))) (oC .none))) (LF sc dl' n os pv P Q v5 v6 v7 v8 v9 (.val x) (.val y) .no .no v16) = some (false, LF sc dl' n os pv P Q v5 v6 v7 v8 v9 (.val x) (.val y) .no .no v16) :=
    bV_of (evP_of (consO_of (asO_of (callF_of (consO_of (asO_of (vTup_of (by rfl) (by rfl) (by exact f0)) (by rfl)) (by rfl)) (by rfl) (by rfl) (by rfl) (by rfl) (by exact h3) (by rfl)) (by rfl)) (by rfl)) (by rfl) (by rfl))
  exact (sIf_f ((bOr_f c1).trans ((bOr_f c2).trans c3))).trans (by rfl)
theorem st13 (hp0 : 0 ≤ pv) (hN0 : 0 < N) (hN : N ≤ 10) (gP : PolyG N pv P) (gQ : PolyG N pv Q) (lP : P.length ≤ 10) (lQ : Q.length ≤ 10) {a b : Slot} :
    ST13 (LF sc dl' n os pv P Q v5 v6 v7 v8 v9 a b .no .no v16) = some (.nx (LF sc dl' n os pv P Q v5 v6 v7 v8 v9 a b (.val (pD (gath pv (mulF P Q)))) .no v16)) := by
  have h := times_of (p := pv) (P := P) (Q := Q) hp0 (fun k m e => by
    have := mul_keys gP gQ k m
    rw [e] at this
    simp at this
    omega) (fun t m => by rw [gP.row t m]; show _ ≤ 16777216; omega) (fun t m u mu => by
    have h1 := gP.sm t m
    have h2 := gQ.sm u mu
    exact L2.wide_mul (a := 8) (b := 8) (by omega) (by omega) (by decide) (by decide) (by decide)) (by omega) (by omega)
  exact sSet_of (i := 14) (e := LF sc dl' n os pv P Q v5 v6 v7 v8 v9 a b .no .no v16) (s := .val (pD (gath pv (mulF P Q)))) (callF_of (by rfl) (by rfl) (by rfl) (by rfl) (by rfl) (by exact h) (by rfl)) (by simp)
theorem lead_of {P : Asc} {a : List Int} {c : Int} (nd : (P.map (·.1)).Nodup) (h : (a, c) ∈ P) : (P.filterMap fun t => if decide (t.1 = a) then some (PyData.int t.2) else none) = [.int c] := by
  induction P with
  | nil => cases h
  | cons t P ih =>
    rw [List.map_cons] at nd
    obtain ⟨n1, n2⟩ := List.nodup_cons.mp nd
    rcases List.mem_cons.mp h with e | m
    · subst e
      have hz : (P.filterMap fun t => if decide (t.1 = a) then some (PyData.int t.2) else none) = [] := by
        rw [List.filterMap_eq_nil_iff]
        intro u mu
        have : u.1 ≠ a := fun e => n1 (by
          have hm : u.1 ∈ P.map (·.1) := List.mem_map_of_mem (f := (·.1)) mu
          rw [e] at hm
          exact hm)
        simp [this]
      have e1 : (fun t : List Int × Int => if decide (t.1 = a) = true then some (PyData.int t.2) else none) (a, c) = some (PyData.int c) := by simp
      rw [List.filterMap_cons_some (f := fun t : List Int × Int => if decide (t.1 = a) = true then some (PyData.int t.2) else none) e1, hz]
    · have hne : t.1 ≠ a := fun e => n1 (by
        have hm : a ∈ P.map (·.1) := List.mem_map_of_mem (f := (·.1)) m
        rw [e]
        exact hm)
      rw [List.filterMap_cons_none (by simp [hne])]
      exact ih n2 m
theorem tail_of (hp : os.Perm (List.range N)) (hpp : pv ∈ [(0 : Int), 2, 3, 7, 101]) (hN0 : 0 < N) (hN : N ≤ 10) (gP : PolyG N pv P) (gQ : PolyG N pv Q) (lP : P.length ≤ 10) (lQ : Q.length ≤ 10) : ∃ e,
    sSeq ST13 (sSeq ST14 (sSeq ST15 (sSeq ST16 (sSeq ST17 ST18)))) (LF sc dl' n os pv P Q v5 v6 v7 v8 v9 (.val (oD (best os (P.map (·.1))))) (.val (oD (best os (Q.map (·.1))))) .no .no v16) = some (.rt (.val (.bool true)) e) ∧ ∃ x r, e = x :: r := by
  have hp0 : 0 ≤ pv := by
    simp only [List.mem_cons, List.not_mem_nil, or_false] at hpp
    omega
  have hlo : os.length = N := by rw [hp.length_eq, List.length_range]
  have hf : Fits os.length := by show _ ≤ 16777216; omega
  have hkeys := mul_keys gP gQ
  have lM : (mulF P Q).length ≤ 100 := by
    have inn : ∀ (t : List Int × Int) (Q F : Asc), (Q.foldl (fun F u => addF F (addP t.1 u.1) (t.2 * u.2)) F).length ≤ F.length + Q.length := by
      intro t Q
      induction Q with
      | nil => intro F; simp
      | cons u Q ih =>
        intro F
        have h1 := ih (addF F (addP t.1 u.1) (t.2 * u.2))
        have h2 := len_addF F (addP t.1 u.1) (t.2 * u.2)
        simp only [List.foldl_cons, List.length_cons]
        omega
    have out : ∀ (P F : Asc), (P.foldl (fun F t => Q.foldl (fun F u => addF F (addP t.1 u.1) (t.2 * u.2)) F) F).length ≤ F.length + P.length * 10 := by
      intro P
      induction P with
      | nil => intro F; simp
      | cons t P ih =>
        intro F
        have h1 := ih (Q.foldl (fun F u => addF F (addP t.1 u.1) (t.2 * u.2)) F)
        have h2 := inn t Q F
        simp only [List.foldl_cons, List.length_cons]
        omega
    have := out P []
    simp only [List.length_nil] at this
    show (mulF P Q).length ≤ 100
    unfold mulF
    omega
  have lG := gath_len pv (mulF P Q)
  have hrowG : ∀ t ∈ gath pv (mulF P Q), t.1.length = N := fun t m => hkeys t.1 (mem_gath.mp m).1
  have hhead := head_of (os := os) (P := gath pv (mulF P Q)) (fun t m o mo => by
    rw [hrowG t m]
    exact List.mem_range.mp (hp.mem_iff.mp mo)) hf (by show _ ≤ 16777216; omega)
  have t13 := st13 (sc := sc) (dl' := dl') (n := n) (os := os) (v5 := v5) (v6 := v6) (v7 := v7) (v8 := v8) (v9 := v9) (v16 := v16) (a := .val (oD (best os (P.map (·.1))))) (b := .val (oD (best os (Q.map (·.1))))) hp0 hN0 hN gP gQ lP lQ
  -- one of them is 0
  have zero : (mulF P Q) = [] → best os (P.map (·.1)) = none ∨ best os (Q.map (·.1)) = none → ∃ e, sSeq ST13 (sSeq ST14 (sSeq ST15 (sSeq ST16 (sSeq ST17 ST18)))) (LF sc dl' n os pv P Q v5 v6 v7 v8 v9 (.val (oD (best os (P.map (·.1))))) (.val (oD (best os (Q.map (·.1))))) .no .no v16) = some (.rt (.val (.bool true)) e) ∧ ∃ x r, e = x :: r := fun hz hor => by
    rw [hz] at t13 hhead
    have e0 : gath pv [] = [] := by simp [gath, tms, srtK]
    rw [e0] at t13 hhead
    have e1 : hdD (srt os (([] : Asc).map (·.1))) = .none := hd_nil os
    rw [e1] at hhead
    have ret : ∀ x y : Slot, sRet (ev2 gIs (asO (callF [false, false] ev_head (consO (oN 14) (consO (oN 4) (nilO))))) (oC .none)) (LF sc dl' n os pv P Q v5 v6 v7 v8 v9 x y (.val (pD [])) .no v16) = some (.rt (.val (.bool true)) (LF sc dl' n os pv P Q v5 v6 v7 v8 v9 x y (.val (pD [])) .no v16)) := fun x y =>
      sRet_of (evP_of (consO_of (asO_of (callF_of (by rfl) (by rfl) (by rfl) (by rfl) (by rfl) (by exact hhead) (by rfl)) (by rfl)) (by rfl)) (by rfl) (by rfl))
    refine ⟨_, (sSeq_nx t13).trans (sSeq_rt ((sIf_t ?_).trans (ret (.val (oD (best os (P.map (·.1))))) (.val (oD (best os (Q.map (·.1)))))))), _, _, rfl⟩
    rcases hor with h | h
    · rw [h]
      exact bOr_t (bV_of (evP_of (by rfl) (by rfl) (by rfl)))
    · rw [h]
      cases best os (P.map (·.1)) with
      | none => exact bOr_t (bV_of (evP_of (by rfl) (by rfl) (by rfl)))
      | some z => exact (bOr_f (bV_of (evP_of (by rfl) (by rfl) (by rfl)))).trans (bV_of (evP_of (by rfl) (by rfl) (by rfl)))
  by_cases hP : P = []
  · subst hP
    exact zero rfl (.inl rfl)
  by_cases hQ : Q = []
  · subst hQ
    exact zero (mulF_nil_r P) (.inr rfl)
  obtain ⟨a, ea, ma⟩ := best_max hp (row_keys gP) (by simpa using hP)
  obtain ⟨b, eb, mb⟩ := best_max hp (row_keys gQ) (by simpa using hQ)
  obtain ⟨⟨a', c⟩, hc, rfl⟩ := List.mem_map.mp ma.1
  obtain ⟨⟨b', d⟩, hd, rfl⟩ := List.mem_map.mp mb.1
  obtain ⟨hmax, hfac⟩ := prod_head hp hpp gP gQ ma mb hc hd
  rw [hd_max hmax] at hhead
  rw [ea, eb] at t13 ⊢
  have la : a'.length = N := gP.row _ hc
  have lb : b'.length = N := gQ.row _ hd
  generalize hG : gath pv (mulF P Q) = G at *
  let E (s6 ld : Slot) : Env1 := LF sc dl' n os pv P Q v5 s6 v7 v8 v9 (.val (uT a')) (.val (uT b')) (.val (pD G)) ld v16
  have t14 : ST14 (E v6 .no) = some (.nx (E v6 .no)) := (sIf_f (e := E v6 .no) ((bOr_f (e := E v6 .no) (bV_of (evP_of (by rfl) (by rfl) (by rfl)))).trans (bV_of (evP_of (by rfl) (by rfl) (by rfl))))).trans (by rfl)
  have hpl := plus_of (a := a') (b := b') (by omega) (by omega)
  have t15 : ST15 (E v6 .no) = some (.nx (E (.val (uT (addP a' b'))) .no)) := sSet_of (i := 6) (e := E v6 .no) (s := .val (uT (addP a' b'))) (callF_of (by rfl) (by rfl) (by rfl) (by rfl) (by rfl) (by exact hpl) (by rfl)) (by simp [E])
  have hs : ev_law_same 6 [.val (uT (addP a' b')), .val (uT (addP a' b'))] = some (.val (.bool true), [.no, .no]) := same_uT 4 (by rw [addP_len la lb]; omega)
  have t16 : ST16 (E (.val (uT (addP a' b'))) .no) = some (.nx (E (.val (uT (addP a' b'))) .no)) := (sIf_f (e := E (.val (uT (addP a' b'))) .no) (bNot_of (b := true) (bV_of (callF_of (consO_of (asO_of (callF_of (by rfl) (by rfl) (by rfl) (by rfl) (by rfl) (by exact hhead) (by rfl)) (by rfl)) (by rfl)) (by rfl) (by rfl) (by rfl) (by rfl) (by exact hs) (by rfl))))).trans (by rfl)
  have f1 : Fits 1 := show 1 ≤ 16777216 by decide
  have ld1 : asO (ev2 gSub1 (asO (vLc (iSeq (oN 10)) (gT 2 (gConss (gN 18) (gConss (gN 19) (gNils)))) (bV (ev2 gEq (oN 18) (oN 12))) (oN 19) [18, 19])) (oC (.int 0))) (E (.val (uT (addP a' b'))) .no) = some (.dat (.int c), E (.val (uT (addP a' b'))) .no) := by
    refine asO_of (evP_of (consO_of (asO_of (vLc_same (ds := P.map tmD) (out := [.int c]) (E (.val (uT (addP a' b'))) .no) (by rfl) ?_ f1 (by rfl)) (by rfl)) (by rfl)) (by rfl) (by rfl)) (by rfl)
    rw [← lead_of gP.nd hc]
    refine lcF_mapm fun t m => ?_
    have hg : gEq [uT t.1, uT a'] = some (.val (.bool (decide (t.1 = a')))) := by rw [← eqv_tI]; exact gEq_of (sh_tI _) (sh_tI _)
    by_cases h : t.1 = a'
    · rw [decide_eq_true h] at hg ⊢
      exact lcT_of (by rfl) (bV_of (evP_of (by rfl) (by rfl) (by exact hg))) (by rfl) (by rfl) (by rfl)
    · rw [decide_eq_false h] at hg ⊢
      exact lcT_no (by rfl) (bV_of (evP_of (by rfl) (by rfl) (by exact hg))) (by rfl)
  have ld2 : asO (ev2 gSub1 (asO (vLc (iSeq (oN 11)) (gT 2 (gConss (gN 18) (gConss (gN 19) (gNils)))) (bV (ev2 gEq (oN 18) (oN 13))) (oN 19) [18, 19])) (oC (.int 0))) (E (.val (uT (addP a' b'))) .no) = some (.dat (.int d), E (.val (uT (addP a' b'))) .no) := by
    refine asO_of (evP_of (consO_of (asO_of (vLc_same (ds := Q.map tmD) (out := [.int d]) (E (.val (uT (addP a' b'))) .no) (by rfl) ?_ f1 (by rfl)) (by rfl)) (by rfl)) (by rfl) (by rfl)) (by rfl)
    rw [← lead_of gQ.nd hd]
    refine lcF_mapm fun t m => ?_
    have hg : gEq [uT t.1, uT b'] = some (.val (.bool (decide (t.1 = b')))) := by rw [← eqv_tI]; exact gEq_of (sh_tI _) (sh_tI _)
    by_cases h : t.1 = b'
    · rw [decide_eq_true h] at hg ⊢
      exact lcT_of (by rfl) (bV_of (evP_of (by rfl) (by rfl) (by exact hg))) (by rfl) (by rfl) (by rfl)
    · rw [decide_eq_false h] at hg ⊢
      exact lcT_no (by rfl) (bV_of (evP_of (by rfl) (by rfl) (by exact hg))) (by rfl)
  have hmul : gMul [.int c, .int d] = some (.val (.int (c * d))) := gMul_of (by
    have h1 := gP.sm _ hc
    have h2 := gQ.sm _ hd
    exact L2.wide_mul (a := 8) (b := 8) (by omega) (by omega) (by decide) (by decide) (by decide))
  have t17 : ST17 (E (.val (uT (addP a' b'))) .no) = some (.nx (E (.val (uT (addP a' b'))) (.val (.int (c * d))))) := sSet_of (i := 15) (e := E (.val (uT (addP a' b'))) .no) (s := .val (.int (c * d))) (evP_of (consO_of ld1 (consO_of ld2 (by rfl : nilO _ = _))) (by rfl) hmul) (by simp [E])
  have hfo := factor_of_of G (addP a' b')
  rw [hfac] at hfo
  have hel := law_element_of (p := pv) (x := c * d) hp0
  have hs2 : ev_law_same 6 [.val (.int (el pv (c * d))), .val (.int (el pv (c * d)))] = some (.val (.bool true), [.no, .no]) := same_int 5 _
  have t18 : ST18 (E (.val (uT (addP a' b'))) (.val (.int (c * d)))) = some (.rt (.val (.bool true)) (E (.val (uT (addP a' b'))) (.val (.int (c * d))))) := sRet_of (callF_of (consO_of (asO_of (callF_of (by rfl) (by rfl) (by rfl) (by rfl) (by rfl) (by exact hfo) (by rfl)) (by rfl)) (consO_of (asO_of (callF_of (by rfl) (by rfl) (by rfl) (by rfl) (by rfl) (by exact hel) (by rfl)) (by rfl)) (by rfl))) (by rfl) (by rfl) (by rfl) (by rfl) (by exact hs2) (by rfl))
  exact ⟨_, (sSeq_nx t13).trans ((sSeq_nx t14).trans ((sSeq_nx t15).trans ((sSeq_nx t16).trans ((sSeq_nx t17).trans t18)))), _, _, rfl⟩
end
theorem law_true (ns : List Int) (h : ns.length ≤ 63) : ∃ outs, ev_theLaw [.val (.list (ns.map .int))] = some (.val (.bool true), outs) := by
  obtain ⟨cs1, b1, e1, d1⟩ := draw_of ns h
  have t1 := st1 e1
  obtain ⟨pv, N, cs2, b2, hpv, hN0, hN, d2, t2⟩ := st2 (sc := .val (uL ns)) d1
  obtain ⟨os, hos, cs3, b3, e3, d3⟩ := order_of (n := N) d2 (by omega)
  have t3 := st3 (sc := .val (uL ns)) (p := .val (.int pv)) e3
  obtain ⟨ps, hps, cs4, b4, d4, e4⟩ := near_of d3 hos hN0 (by omega)
  obtain ⟨x5, x6, t4⟩ := st4 (sc := .val (uL ns)) (p := .val (.int pv)) hps e4
  obtain ⟨L, bound, cs5, b5, hL, hLl, d5, t5⟩ := st5 (sc := .val (uL ns)) (p := .val (.int pv)) (o := .val (uT (nI os))) (v5 := x5) (v6 := x6) d4 hN0 hN
  obtain ⟨s7, cs6, b6, h7, d6, t6⟩ := st6 (sc := .val (uL ns)) (p := .val (.int pv)) (n := .val (.int (N : Int))) (v5 := x5) (v6 := x6) d5 hos hN hL hLl
  have t7 := st7 (sc := .val (uL ns)) (dl' := .deal cs6 b6) (p := .val (.int pv)) (n := .val (.int (N : Int))) (o := .val (uT (nI os))) (v5 := x5) (v6 := x6) (T := srt os L) (srt_perm os L) hLl h7
  have t8 := st8 (sc := .val (uL ns)) (dl' := .deal cs6 b6) (p := .val (.int pv)) (n := .val (.int (N : Int))) (v5 := x5) (v6 := x6) hos hN hL hLl rfl
  obtain ⟨x9, x16, t9⟩ := st9 (sc := .val (uL ns)) (dl' := .deal cs6 b6) (p := .val (.int pv)) (n := .val (.int (N : Int))) (v5 := x5) (v6 := x6) (v8 := .val (.tuple ((srt os L).map uT))) hos hN hL hLl
  have hp0 : 0 ≤ pv ∧ pv ≤ 101 := by
    simp only [List.mem_cons, List.not_mem_nil, or_false] at hpv
    omega
  obtain ⟨F, G, cs10, b10, hF, hG, lF, lG, d10, t10⟩ := st10 (sc := .val (uL ns)) (o := .val (uT (nI os))) (v5 := x5) (v6 := x6) (v7 := .val (.list (L.map uT))) (v8 := .val (.tuple ((srt os L).map uT))) (v9 := x9) (v16 := x16) d6 hp0.1 hp0.2 hN0 hN
  have gP := polyG hF hp0.1 hp0.2
  have gQ := polyG hG hp0.1 hp0.2
  have lP := gath_len pv F
  have lQ := gath_len pv G
  have t11 := st11 (sc := .val (uL ns)) (dl' := .deal cs10 b10) (n := .val (.int (N : Int))) (v5 := x5) (v6 := x6) (v7 := .val (.list (L.map uT))) (v8 := .val (.tuple ((srt os L).map uT))) (v9 := x9) (v16 := x16) hos gP gQ
  have t12 := st12 (sc := .val (uL ns)) (dl' := .deal cs10 b10) (n := .val (.int (N : Int))) (v5 := x5) (v6 := x6) (v7 := .val (.list (L.map uT))) (v8 := .val (.tuple ((srt os L).map uT))) (v9 := x9) (v16 := x16) hos hN gP gQ (by omega) (by omega)
  obtain ⟨e, t13, x, r, rfl⟩ := tail_of (sc := .val (uL ns)) (dl' := .deal cs10 b10) (n := .val (.int (N : Int))) (v5 := x5) (v6 := x6) (v7 := .val (.list (L.map uT))) (v8 := .val (.tuple ((srt os L).map uT))) (v9 := x9) (v16 := x16) hos hpv hN0 hN gP gQ (by omega) (by omega)
  refine ⟨[.no], ?_⟩
  unfold ev_theLaw
  rw [bd_eq]
  exact defE_rt (LE (.val (uL ns)) .no .no .no .no .no .no .no .no .no .no .no .no .no .no .no .no) (by rfl) ((sSeq_nx t1).trans ((sSeq_nx t2).trans ((sSeq_nx t3).trans ((sSeq_nx t4).trans ((sSeq_nx t5).trans ((sSeq_nx t6).trans ((sSeq_nx t7).trans ((sSeq_nx t8).trans ((sSeq_nx t9).trans ((sSeq_nx t10).trans ((sSeq_nx t11).trans ((sSeq_nx t12).trans t13)))))))))))) (by rfl)
end Pf
namespace Pf
open L2 PyProof.Rows PySem PySem.Spec
def topS (i : Nat) : Stmt := PySem.Challenge.pw_morelistpicks_k04_whole_heads_along_orde.main.body.getD i (.Pass ⟨0, 0, 0, 0⟩)
section
variable {P : Program} {w : World} {K : PySem.W.Frag} {mg : Str → Option Value} {base : Heap} {k : Nat}
abbrev s_is_integer : Stmt := topS 1
theorem sc_is_integer : FnScope ["value"] ["value"] (defScope s_is_integer) := ⟨rfl, rfl, rfl, by decide +kernel, rfl, by decide +kernel, by decide +kernel⟩
theorem ok_is_integer (S : Stands K mg "is_integer" s_is_integer ["value"]) (m_bool : mg "bool" = none) (m_int : mg "int" = none) (m_isinstance : mg "isinstance" = none) : Callee P w K mg base "is_integer" s_is_integer (k + 1) ["value"] ev_is_integer := S.callee (N := ["value"]) (m := [false]) sc_is_integer rfl fun f cdv A outer s H E hr => by
  have hN := sc_is_integer.nd
  have hu := hu_room hr
  have hu1 := hu_room1 hr
  exact (ss_one (sp_ret (pv_and (pv_isi (t := .int) rfl m_isinstance (po_name (pv 0)) rfl m_int boot_int) (pe_one (pv_not (pv_isi (t := .bool) rfl m_isinstance (po_name (pv 0)) rfl m_bool boot_bool))))))
abbrev s_is_number : Stmt := topS 2
theorem sc_is_number : FnScope ["value"] ["value"] (defScope s_is_number) := ⟨rfl, rfl, rfl, by decide +kernel, rfl, by decide +kernel, by decide +kernel⟩
theorem ok_is_number (S : Stands K mg "is_number" s_is_number ["value"]) (c_is_integer : Callee P w K mg base "is_integer" s_is_integer k ["value"] ev_is_integer) : Callee P w K mg base "is_number" s_is_number (k + 1) ["value"] ev_is_number := S.callee (N := ["value"]) (m := [false]) sc_is_number rfl fun f cdv A outer s H E hr => by
  have hN := sc_is_number.nd
  have hu := hu_room hr
  have hu1 := hu_room1 hr
  exact (ss_one (sp_ret (pv_and (pc_call (m := [false]) c_is_integer hr rfl rfl (ps_cons (po_name (pv 0)) ps_nil)) (pe_one (pv_cmp (op_gGe hu) (po_name (pv 0)) po_int)))))
abbrev s_is_index : Stmt := topS 3
theorem sc_is_index : FnScope ["value", "many"] ["value", "many"] (defScope s_is_index) := ⟨rfl, rfl, rfl, by decide +kernel, rfl, by decide +kernel, by decide +kernel⟩
theorem ok_is_index (S : Stands K mg "is_index" s_is_index ["value", "many"]) (c_is_number : Callee P w K mg base "is_number" s_is_number k ["value"] ev_is_number) : Callee P w K mg base "is_index" s_is_index (k + 1) ["value", "many"] ev_is_index := S.callee (N := ["value", "many"]) (m := [false, false]) sc_is_index rfl fun f cdv A outer s H E hr => by
  have hN := sc_is_index.nd
  have hu := hu_room hr
  have hu1 := hu_room1 hr
  exact (ss_one (sp_ret (pv_and (pc_call (m := [false]) c_is_number hr rfl rfl (ps_cons (po_name (pv 0)) ps_nil)) (pe_one (pv_cmp (op_gLt hu) (po_name (pv 0)) (po_name (pv 1)))))))
abbrev s_is_order : Stmt := topS 5
theorem sc_is_order : FnScope ["n", "value", "one"] ["n", "value"] (defScope s_is_order) := ⟨rfl, rfl, rfl, by decide +kernel, rfl, by decide +kernel, by decide +kernel⟩
theorem ok_is_order (S : Stands K mg "is_order" s_is_order ["n", "value"]) (m_all : mg "all" = none) (m_isinstance : mg "isinstance" = none) (m_len : mg "len" = none) (m_list : mg "list" = none) (m_range : mg "range" = none) (m_sorted : mg "sorted" = none) (m_tuple : mg "tuple" = none) (c_is_index : Callee P w K mg base "is_index" s_is_index k ["value", "many"] ev_is_index) : Callee P w K mg base "is_order" s_is_order (k + 1) ["n", "value"] ev_is_order := S.callee (N := ["n", "value", "one"]) (m := [false, false]) sc_is_order rfl fun f cdv A outer s H E hr => by
  have hN := sc_is_order.nd
  have hu := hu_room hr
  have hu1 := hu_room1 hr
  exact (ss_cons (sp_if (PW.pt (pw_or2 (pt_not' (pt_bv (pv_isi (t := .tuple) rfl m_isinstance (po_name (pv 1)) rfl m_tuple boot_tuple))) (pw_or2 (pt_cmp' (op_gNe hu) (po_val (pv_callB (cr_gLen rfl) rfl m_len boot_len (ps_cons (po_name (pv 1)) ps_nil))) (po_name (pv 0))) (pw_or1 (pt_not' (pt_bv (pv_callB (cr_gAll rfl) rfl m_all boot_all (ps_cons (po_val (pv_lc (own := [("one", 2)]) rfl hN (si_seq (po_name (pv 1))) (blkOk_by (by kernel_rfl)) (fun _ _ _ _ _ => (tg_name (i := 2) hN rfl (by first | exact .inl rfl | exact .inr rfl))) (fun _ _ _ _ _ => pts_none) (fun _ _ _ _ _ => (po_val (pc_call (m := [false, false]) c_is_index hr rfl rfl (ps_cons (po_name (pv 2)) (ps_cons (po_name (pv 0)) ps_nil))))))) ps_nil)))))))) (ss_one (sp_ret (pv_opd po_bl))) ss_nil) (ss_one (sp_ret (pv_cmp (op_gEq hu) (po_val (pv_callB (cr_gSorted rfl hu) rfl m_sorted boot_sorted (ps_cons (po_name (pv 1)) ps_nil))) (po_val (pv_lrg rfl rfl m_list rfl m_range (po_name (pv 0))))))))
abbrev s_rank : Stmt := topS 6
theorem sc_rank : FnScope ["order", "powers", "at"] ["order", "powers"] (defScope s_rank) := ⟨rfl, rfl, rfl, by decide +kernel, rfl, by decide +kernel, by decide +kernel⟩
theorem ok_rank (S : Stands K mg "rank" s_rank ["order", "powers"]) (m_tuple : mg "tuple" = none) : Callee P w K mg base "rank" s_rank (k + 1) ["order", "powers"] ev_rank := S.callee (N := ["order", "powers", "at"]) (m := [false, false]) sc_rank rfl fun f cdv A outer s H E hr => by
  have hN := sc_rank.nd
  have hu := hu_room hr
  have hu1 := hu_room1 hr
  exact (ss_one (sp_ret (pv_callTy cr_gTuple rfl m_tuple boot_tuple (ps_cons (po_val (pv_lc (own := [("at", 2)]) rfl hN (si_seq (po_val (pv_rev (po_name (pv 0))))) (blkOk_by (by kernel_rfl)) (fun _ _ _ _ _ => (tg_name (i := 2) hN rfl (by first | exact .inl rfl | exact .inr rfl))) (fun _ _ _ _ _ => pts_none) (fun _ _ _ _ _ => (po_val (pv_ix (ix_gSub hu) (po_name (pv 1)) (po_name (pv 2))))))) ps_nil))))
abbrev s_is_ahead : Stmt := topS 7
theorem sc_is_ahead : FnScope ["order", "one", "other"] ["order", "one", "other"] (defScope s_is_ahead) := ⟨rfl, rfl, rfl, by decide +kernel, rfl, by decide +kernel, by decide +kernel⟩
theorem ok_is_ahead (S : Stands K mg "is_ahead" s_is_ahead ["order", "one", "other"]) (c_rank : Callee P w K mg base "rank" s_rank k ["order", "powers"] ev_rank) : Callee P w K mg base "is_ahead" s_is_ahead (k + 1) ["order", "one", "other"] ev_is_ahead := S.callee (N := ["order", "one", "other"]) (m := [false, false, false]) sc_is_ahead rfl fun f cdv A outer s H E hr => by
  have hN := sc_is_ahead.nd
  have hu := hu_room hr
  have hu1 := hu_room1 hr
  exact (ss_one (sp_ret (pv_cmp (op_gLt hu) (po_val (pc_call (m := [false, false]) c_rank hr rfl rfl (ps_cons (po_name (pv 0)) (ps_cons (po_name (pv 1)) ps_nil)))) (po_val (pc_call (m := [false, false]) c_rank hr rfl rfl (ps_cons (po_name (pv 0)) (ps_cons (po_name (pv 2)) ps_nil)))))))
abbrev s_along : Stmt := topS 8
theorem sc_along : FnScope ["order", "some", "key", "powers", "one"] ["order", "some"] (defScope s_along) := ⟨rfl, rfl, rfl, by decide +kernel, rfl, by decide +kernel, by decide +kernel⟩
theorem ok_along (S : Stands K mg "along" s_along ["order", "some"]) (m_sorted : mg "sorted" = none) (m_tuple : mg "tuple" = none) (c_rank : Callee P w K mg base "rank" s_rank k ["order", "powers"] ev_rank) : Callee P w K mg base "along" s_along (k + 1) ["order", "some"] ev_along := S.callee (N := ["order", "some", "key", "powers", "one"]) (m := [false, false]) sc_along rfl fun f cdv A outer s H E hr => by
  have hN := sc_along.nd
  have hu := hu_room hr
  have hu1 := hu_room1 hr
  exact (ss_one (sp_ret (pv_callTy cr_gTuple rfl m_tuple boot_tuple (ps_cons (po_val (pv_lc (own := [("key", 2), ("powers", 3)]) rfl hN (si_seq (po_val (pv_callB (cr_gSorted rfl hu) rfl m_sorted boot_sorted (ps_cons (po_val (pv_lc (own := [("one", 4)]) rfl hN (si_seq (po_name (pv 1))) (blkOk_by (by kernel_rfl)) (fun _ _ _ _ _ => (tg_name (i := 4) hN rfl (by first | exact .inl rfl | exact .inr rfl))) (fun _ _ _ _ _ => pts_none) (fun _ _ _ _ _ => (po_val (pv_tup (ps_cons (po_val (pc_call (m := [false, false]) c_rank hr rfl rfl (ps_cons (po_name (pv 0)) (ps_cons (po_name (pv 4)) ps_nil)))) (ps_cons (po_name (pv 4)) ps_nil))))))) ps_nil)))) (blkOk_by (by kernel_rfl)) (fun _ _ _ _ _ => (tg_tup rfl (tg_cons (tg_name (i := 2) hN rfl (by first | exact .inl rfl | exact .inr rfl)) (tg_cons (tg_name (i := 3) hN rfl (by first | exact .inl rfl | exact .inr rfl)) tg_nil)))) (fun _ _ _ _ _ => pts_none) (fun _ _ _ _ _ => (po_name (pv 3))))) ps_nil))))
abbrev s_head : Stmt := topS 9
theorem sc_head : FnScope ["polynomial", "order", "powers", "factor"] ["polynomial", "order"] (defScope s_head) := ⟨rfl, rfl, rfl, by decide +kernel, rfl, by decide +kernel, by decide +kernel⟩
theorem ok_head (S : Stands K mg "head" s_head ["polynomial", "order"]) (c_along : Callee P w K mg base "along" s_along k ["order", "some"] ev_along) : Callee P w K mg base "head" s_head (k + 1) ["polynomial", "order"] ev_head := S.callee (N := ["polynomial", "order", "powers", "factor"]) (m := [false, false]) sc_head rfl fun f cdv A outer s H E hr => by
  have hN := sc_head.nd
  have hu := hu_room hr
  have hu1 := hu_room1 hr
  exact (ss_cons (sp_if (pt_cmp' (op_gEq hu) (po_name (pv 0)) (po_val (pv_tup ps_nil))) (ss_one (sp_ret (pv_opd po_non))) ss_nil) (ss_one (sp_ret (pv_ix (ix_gSub hu) (po_val (pc_call (m := [false, false]) c_along hr rfl rfl (ps_cons (po_name (pv 1)) (ps_cons (po_val (pv_lc (own := [("powers", 2), ("factor", 3)]) rfl hN (si_seq (po_name (pv 0))) (blkOk_by (by kernel_rfl)) (fun _ _ _ _ _ => (tg_tup rfl (tg_cons (tg_name (i := 2) hN rfl (by first | exact .inl rfl | exact .inr rfl)) (tg_cons (tg_name (i := 3) hN rfl (by first | exact .inl rfl | exact .inr rfl)) tg_nil)))) (fun _ _ _ _ _ => pts_none) (fun _ _ _ _ _ => (po_name (pv 2))))) ps_nil)))) (po_val (pv_un un_gNeg po_int))))))
abbrev s_element : Stmt := topS 11
theorem sc_element : FnScope ["p", "number"] ["p", "number"] (defScope s_element) := ⟨rfl, rfl, rfl, by decide +kernel, rfl, by decide +kernel, by decide +kernel⟩
theorem ok_element (S : Stands K mg "element" s_element ["p", "number"]) (m_int : mg "int" = none) : Callee P w K mg base "element" s_element (k + 1) ["p", "number"] ev_element := S.callee (N := ["p", "number"]) (m := [false, false]) sc_element rfl fun f cdv A outer s H E hr => by
  have hN := sc_element.nd
  have hu := hu_room hr
  have hu1 := hu_room1 hr
  exact (ss_one (sp_ret (pv_ite (pt_cmp' (op_gEq hu) (po_name (pv 0)) po_int) (pv_opd (po_name (pv 1))) (pv_op op_gMod (po_val (pv_callTy cr_gInt rfl m_int boot_int (ps_cons (po_name (pv 1)) ps_nil))) (po_name (pv 0))))))
abbrev s_gathered : Stmt := topS 13
theorem sc_gathered : FnScope ["p", "found", "terms", "powers", "term"] ["p", "found"] (defScope s_gathered) := ⟨rfl, rfl, rfl, by decide +kernel, rfl, by decide +kernel, by decide +kernel⟩
theorem ok_gathered (S : Stands K mg "gathered" s_gathered ["p", "found"]) (m_sorted : mg "sorted" = none) (m_tuple : mg "tuple" = none) (c_element : Callee P w K mg base "element" s_element k ["p", "number"] ev_element) : Callee P w K mg base "gathered" s_gathered (k + 1) ["p", "found"] ev_gathered := S.callee (N := ["p", "found", "terms", "powers", "term"]) (m := [false, false]) sc_gathered rfl fun f cdv A outer s H E hr => by
  have hN := sc_gathered.nd
  have hu := hu_room hr
  have hu1 := hu_room1 hr
  exact (ss_cons (sp_setLc (i := 2) (own := [("powers", 3)]) rfl hN rfl rfl (sw_true rfl rfl rfl rfl) (si_seq (po_val (pv_callB (cr_gSorted rfl hu) rfl m_sorted boot_sorted (ps_cons (po_name (pv 1)) ps_nil)))) (blkOk_by (by kernel_rfl)) (fun _ _ _ _ _ => (tg_name (i := 3) hN rfl (by first | exact .inl rfl | exact .inr rfl))) (fun _ _ _ _ _ => pts_none) (fun _ _ _ _ _ => (po_val (pv_tup (ps_cons (po_name (pv 3)) (ps_cons (po_val (pc_call (m := [false, false]) c_element hr rfl rfl (ps_cons (po_name (pv 0)) (ps_cons (po_val (pv_ix (ix_gSub hu) (po_name (pv 1)) (po_name (pv 3)))) ps_nil)))) ps_nil)))))) (ss_one (sp_ret (pv_callTy cr_gTuple rfl m_tuple boot_tuple (ps_cons (po_val (pv_lc (own := [("term", 4)]) rfl hN (si_seq (po_name (pv 2))) (blkOk_by (by kernel_rfl)) (fun _ _ _ _ _ => (tg_name (i := 4) hN rfl (by first | exact .inl rfl | exact .inr rfl))) (fun _ _ _ _ _ => (pts_one (pt_cmp' (op_gNe hu) (po_val (pv_ix (ix_gSub hu) (po_name (pv 4)) po_int)) po_int))) (fun _ _ _ _ _ => (po_name (pv 4))))) ps_nil)))))
abbrev s_factor_of : Stmt := topS 14
theorem sc_factor_of : FnScope ["polynomial", "powers", "one", "factor"] ["polynomial", "powers"] (defScope s_factor_of) := ⟨rfl, rfl, rfl, by decide +kernel, rfl, by decide +kernel, by decide +kernel⟩
theorem ok_factor_of (S : Stands K mg "factor_of" s_factor_of ["polynomial", "powers"]) : Callee P w K mg base "factor_of" s_factor_of (k + 1) ["polynomial", "powers"] ev_factor_of := S.callee (N := ["polynomial", "powers", "one", "factor"]) (m := [false, false]) sc_factor_of rfl fun f cdv A outer s H E hr => by
  have hN := sc_factor_of.nd
  have hu := hu_room hr
  have hu1 := hu_room1 hr
  exact (ss_cons (sp_for PassesOwn.never rfl (si_seq (po_name (pv 0))) (tg_tup rfl (tg_cons (tg_name (i := 2) hN rfl (by first | exact .inl rfl | exact .inr rfl)) (tg_cons (tg_name (i := 3) hN rfl (by first | exact .inl rfl | exact .inr rfl)) tg_nil))) (ss_one (sp_if (pt_cmp' (op_gEq hu) (po_name (pv 2)) (po_name (pv 1))) (ss_one (sp_ret (pv_move (pv 3)))) ss_nil))) (ss_one (sp_ret (pv_opd po_int))))
abbrev s_times : Stmt := topS 15
theorem sc_times : FnScope ["p", "one", "other", "found", "powers", "factor", "more", "by", "both", "a", "b"] ["p", "one", "other"] (defScope s_times) := ⟨rfl, rfl, rfl, by decide +kernel, rfl, by decide +kernel, by decide +kernel⟩
theorem ok_times (S : Stands K mg "times" s_times ["p", "one", "other"]) (m_tuple : mg "tuple" = none) (m_zip : mg "zip" = none) (c_gathered : Callee P w K mg base "gathered" s_gathered k ["p", "found"] ev_gathered) : Callee P w K mg base "times" s_times (k + 1) ["p", "one", "other"] ev_times := S.callee (N := ["p", "one", "other", "found", "powers", "factor", "more", "by", "both", "a", "b"]) (m := [false, false, false]) sc_times rfl fun f cdv A outer s H E hr => by
  have hN := sc_times.nd
  have hu := hu_room hr
  have hu1 := hu_room1 hr
  exact (ss_cons (sp_set (i := 3) hN rfl (by first | exact .inl rfl | exact .inr rfl) pv_dic) (ss_cons (sp_for PassesOwn.never rfl (si_seq (po_name (pv 1))) (tg_tup rfl (tg_cons (tg_name (i := 4) hN rfl (by first | exact .inl rfl | exact .inr rfl)) (tg_cons (tg_name (i := 5) hN rfl (by first | exact .inl rfl | exact .inr rfl)) tg_nil))) (ss_one (sp_for PassesOwn.never rfl (si_seq (po_name (pv 2))) (tg_tup rfl (tg_cons (tg_name (i := 6) hN rfl (by first | exact .inl rfl | exact .inr rfl)) (tg_cons (tg_name (i := 7) hN rfl (by first | exact .inl rfl | exact .inr rfl)) tg_nil))) (ss_cons (sp_set (i := 8) hN rfl (by first | exact .inl rfl | exact .inr rfl) (pv_callTy cr_gTuple rfl m_tuple boot_tuple (ps_cons (po_val (pv_lc (own := [("a", 9), ("b", 10)]) rfl hN (si_zip rfl m_zip (po_name (pv 4)) (po_name (pv 6))) (blkOk_by (by kernel_rfl)) (fun _ _ _ _ _ => (tg_tup rfl (tg_cons (tg_name (i := 9) hN rfl (by first | exact .inl rfl | exact .inr rfl)) (tg_cons (tg_name (i := 10) hN rfl (by first | exact .inl rfl | exact .inr rfl)) tg_nil)))) (fun _ _ _ _ _ => pts_none) (fun _ _ _ _ _ => (po_val (pv_op op_gAdd (po_name (pv 9)) (po_name (pv 10))))))) ps_nil))) (ss_one (sp_put (i := 3) hu1 (pv 3) (po_name (pv 8)) (po_val (pv_op op_gAdd (po_val (pv_get hu (pv 3) (po_name (pv 8)) po_int ⟨rfl, rfl, rfl, rfl⟩)) (po_val (pv_op op_gMul (po_name (pv 5)) (po_name (pv 7)))))))))))) (ss_one (sp_ret (pc_call (m := [false, false]) c_gathered hr rfl rfl (ps_cons (po_name (pv 0)) (ps_cons (po_name (pv 3)) ps_nil)))))))
abbrev s_law_draw : Stmt := topS 17
theorem sc_law_draw : FnScope ["script", "salt", "cells", "blend", "cell"] ["script", "salt"] (defScope s_law_draw) := ⟨rfl, rfl, rfl, by decide +kernel, rfl, by decide +kernel, by decide +kernel⟩
theorem ok_law_draw (S : Stands K mg "_law_draw" s_law_draw ["script", "salt"]) (m_abs : mg "abs" = none) (m_int : mg "int" = none) : Callee P w K mg base "_law_draw" s_law_draw (k + 1) ["script", "salt"] ev_law_draw := S.callee (N := ["script", "salt", "cells", "blend", "cell"]) (m := [false, false]) sc_law_draw rfl fun f cdv A outer s H E hr => by
  have hN := sc_law_draw.nd
  have hu := hu_room hr
  have hu1 := hu_room1 hr
  exact (ss_cons (sp_setLc (i := 2) (own := [("cell", 4)]) rfl hN rfl rfl (sw_true rfl rfl rfl rfl) (si_seq (po_val (pv_cut (po_name (pv 0)) oi_none (oi_some po_int)))) (blkOk_by (by kernel_rfl)) (fun _ _ _ _ _ => (tg_name (i := 4) hN rfl (by first | exact .inl rfl | exact .inr rfl))) (fun _ _ _ _ _ => pts_none) (fun _ _ _ _ _ => (po_val (pv_callB cr_gAbs rfl m_abs boot_abs (ps_cons (po_val (pv_callTy cr_gInt rfl m_int boot_int (ps_cons (po_name (pv 4)) ps_nil))) ps_nil))))) (ss_cons (sp_set (i := 3) hN rfl (by first | exact .inl rfl | exact .inr rfl) (pv_op op_gAdd po_int (po_val (pv_op op_gMul po_int (po_name (pv 1)))))) (ss_cons (sp_for PassesOwn.never rfl (si_seq (po_name (pv 2))) (tg_name (i := 4) hN rfl (by first | exact .inl rfl | exact .inr rfl)) (ss_one (sp_set (i := 3) hN rfl (by first | exact .inl rfl | exact .inr rfl) (pv_op op_gMod (po_val (pv_callTy cr_gInt rfl m_int boot_int (ps_cons (po_val (pv_op op_gAdd (po_val (pv_op op_gAdd (po_val (pv_op op_gMul (po_name (pv 3)) po_int)) (po_val (pv_op op_gMod (po_name (pv 4)) po_int)))) po_int)) ps_nil))) po_int)))) (ss_one (sp_ret (pv_deal (pv_rev (po_val (pv_lc (own := [("cell", 4)]) rfl hN (si_seq (po_name (pv 2))) (blkOk_by (by kernel_rfl)) (fun _ _ _ _ _ => (tg_name (i := 4) hN rfl (by first | exact .inl rfl | exact .inr rfl))) (fun _ _ _ _ _ => (pts_one (pt_cmp' (op_gGe hu) (po_name (pv 4)) (po_val (pv_op op_gPow po_int po_int))))) (fun _ _ _ _ _ => (po_name (pv 4)))))) (po_name (pv 3))))))))
abbrev s_law_any : Stmt := topS 18
theorem sc_law_any : FnScope ["deal", "bound", "rest"] ["deal", "bound"] (defScope s_law_any) := ⟨rfl, rfl, rfl, by decide +kernel, rfl, by decide +kernel, by decide +kernel⟩
theorem ok_law_any (S : Stands K mg "_law_any" s_law_any ["deal", "bound"]) (m_int : mg "int" = none) : Callee P w K mg base "_law_any" s_law_any (k + 1) ["deal", "bound"] anyF := any_callee S sc_law_any fun f cdv A outer s H E hr => by
  have hN := sc_law_any.nd
  have hu64 := hu_room64 hr
  exact (pss_cons (ps_while PassesOwn.never (PW.pt (pw_and (pt_cmpR (op_neD hu64) (pe_ix ix_list (pv 0) pe_int (fun _ _ => rfl)) (pe_lst pa_nil) (nomark _)) (pw_and1 (pt_cmpR op_eq (pe_ix ix_list (pe_ix ix_list (pv 0) pe_int (fun _ _ => rfl)) (pe_un un_neg pe_int) (fun _ _ => rfl)) pe_int (nomark _)))))
      (pss_one (ps_expr (pe_bm0 PySem.F.plainAttrs_list PySem.F.slot_list_pop PySem.F.type_list_pop mt_pop (pe_ix ix_list (pv 0) pe_int (fun _ _ => rfl))))))
    (pss_cons (ps_if (pt_cmpR (op_neD hu64) (pe_ix ix_list (pv 0) pe_int (fun _ _ => rfl)) (pe_lst pa_nil) (nomark _))
        (pss_cons (ps_set (i := 2) hN rfl (.inl rfl) (pe_callTy call_int1 rfl m_int boot_int (pa_cons (pe_bm0 PySem.F.plainAttrs_list PySem.F.slot_list_pop PySem.F.type_list_pop mt_pop (pe_ix ix_list (pv 0) pe_int (fun _ _ => rfl))) pa_nil)))
          (pss_cons (ps_expr (pe_bm PySem.F.plainAttrs_list PySem.F.slot_list_append PySem.F.type_list_append mt_append (pe_ix ix_list (pv 0) pe_int (fun _ _ => rfl)) (pa_cons (pe_op op_fdivW (pv 2) (pv 1)) pa_nil)))
            (pss_one (ps_ret (pe_op op_mod (pv 2) (pv 1)))))) pss_nil)
      (pss_cons (ps_asg (pe_op op_mod (pe_callTy call_int1 rfl m_int boot_int (pa_cons (pe_op op_add (pe_op op_mulW (pe_ix ix_list (pv 0) pe_int (fun _ _ => rfl)) pe_int) pe_int) pa_nil)) pe_int) (pg_sub (pv 0) pe_int set_list))
        (pss_one (ps_ret (pe_op op_mod (pe_callTy call_int1 rfl m_int boot_int (pa_cons (pe_op op_fdivW (pe_ix ix_list (pv 0) pe_int (fun _ _ => rfl)) pe_int) pa_nil)) (pv 1)))))))
abbrev s_law_of : Stmt := topS 19
theorem sc_law_of : FnScope ["deal", "some"] ["deal", "some"] (defScope s_law_of) := ⟨rfl, rfl, rfl, by decide +kernel, rfl, by decide +kernel, by decide +kernel⟩
theorem ok_law_of (S : Stands K mg "_law_of" s_law_of ["deal", "some"]) (m_len : mg "len" = none) (c_law_any : Callee P w K mg base "_law_any" s_law_any k ["deal", "bound"] anyF) : Callee P w K mg base "_law_of" s_law_of (k + 1) ["deal", "some"] ev_law_of := S.callee (N := ["deal", "some"]) (m := [true, false]) sc_law_of rfl fun f cdv A outer s H E hr => by
  have hN := sc_law_of.nd
  have hu := hu_room hr
  have hu1 := hu_room1 hr
  exact (ss_one (sp_ret (pv_ix (ix_gSub hu) (po_name (pv 1)) (po_val (pc_call (m := [true, false]) c_law_any hr rfl rfl (ps_cons (po_name (pv 0)) (ps_cons (po_val (pv_callB (cr_gLen rfl) rfl m_len boot_len (ps_cons (po_name (pv 1)) ps_nil))) ps_nil)))))))
abbrev s_law_mixed : Stmt := topS 20
theorem sc_law_mixed : FnScope ["deal", "some", "left", "found"] ["deal", "some"] (defScope s_law_mixed) := ⟨rfl, rfl, rfl, by decide +kernel, rfl, by decide +kernel, by decide +kernel⟩
theorem ok_law_mixed (S : Stands K mg "_law_mixed" s_law_mixed ["deal", "some"]) (m_len : mg "len" = none) (m_list : mg "list" = none) (c_law_any : Callee P w K mg base "_law_any" s_law_any k ["deal", "bound"] anyF) : Callee P w K mg base "_law_mixed" s_law_mixed (k + 1) ["deal", "some"] ev_law_mixed := S.callee (N := ["deal", "some", "left", "found"]) (m := [true, false]) sc_law_mixed rfl fun f cdv A outer s H E hr => by
  have hN := sc_law_mixed.nd
  have hu := hu_room hr
  have hu1 := hu_room1 hr
  exact (ss_cons (sp_par (i := 2) (j := 3) rfl hN rfl rfl (by decide) rfl rfl (pv_callTy cr_gList rfl m_list boot_list (ps_cons (po_name (pv 1)) ps_nil)) (pv_lst ps_nil)) (ss_cons (sp_while PassesOwn.never (pt_cmp' (op_gNe hu) (po_name (pv 2)) (po_val (pv_lst ps_nil))) (ss_one (sp_expr (pv_app (pv 3) (po_val (pv_popAt (pv 2) (po_val (pc_call (m := [true, false]) c_law_any hr rfl rfl (ps_cons (po_name (pv 0)) (ps_cons (po_val (pv_callB (cr_gLen rfl) rfl m_len boot_len (ps_cons (po_name (pv 2)) ps_nil))) ps_nil)))))))))) (ss_one (sp_ret (pv_move (pv 3))))))
abbrev s_law_same : Stmt := topS 21
theorem sc_law_same : FnScope ["told", "due", "at"] ["told", "due"] (defScope s_law_same) := ⟨rfl, rfl, rfl, by decide +kernel, rfl, by decide +kernel, by decide +kernel⟩
theorem one_law_same {self_law_same : EvF} (S : Stands K mg "_law_same" s_law_same ["told", "due"]) (c_law_same : Callee P w K mg base "_law_same" s_law_same k ["told", "due"] self_law_same) (m_all : mg "all" = none) (m_bool : mg "bool" = none) (m_int : mg "int" = none) (m_isinstance : mg "isinstance" = none) (m_len : mg "len" = none) (m_range : mg "range" = none) (m_str : mg "str" = none) (m_tuple : mg "tuple" = none) : Callee P w K mg base "_law_same" s_law_same (k + 1) ["told", "due"] (defE 3 [false, false] (bd_law_same self_law_same)) := S.callee (N := ["told", "due", "at"]) (m := [false, false]) sc_law_same rfl fun f cdv A outer s H E hr => by
  have hN := sc_law_same.nd
  have hu := hu_room hr
  have hu1 := hu_room1 hr
  exact (ss_cons (sp_if (PW.pt (pw_or2 (pt_bv (pv_isi (t := .bool) rfl m_isinstance (po_name (pv 1)) rfl m_bool boot_bool)) (pw_or1 (pt_bv (pv_isi (t := .bool) rfl m_isinstance (po_name (pv 0)) rfl m_bool boot_bool))))) (ss_one (sp_ret (pv_and (pv_isi (t := .bool) rfl m_isinstance (po_name (pv 1)) rfl m_bool boot_bool) (pv_and (pv_isi (t := .bool) rfl m_isinstance (po_name (pv 0)) rfl m_bool boot_bool) (pe_one (pv_cmp (op_gEq hu) (po_name (pv 0)) (po_name (pv 1)))))))) ss_nil) (ss_cons (sp_if (pt_bv (pv_isi (t := .int) rfl m_isinstance (po_name (pv 1)) rfl m_int boot_int)) (ss_one (sp_ret (pv_and (pv_isi (t := .int) rfl m_isinstance (po_name (pv 0)) rfl m_int boot_int) (pe_one (pv_cmp (op_gEq hu) (po_name (pv 0)) (po_name (pv 1))))))) ss_nil) (ss_cons (sp_if (pt_bv (pv_isi (t := .str) rfl m_isinstance (po_name (pv 1)) rfl m_str boot_str)) (ss_one (sp_ret (pv_and (pv_isi (t := .str) rfl m_isinstance (po_name (pv 0)) rfl m_str boot_str) (pe_one (pv_cmp (op_gEq hu) (po_name (pv 0)) (po_name (pv 1))))))) ss_nil) (ss_cons (sp_if (pt_bv (pv_isi (t := .tuple) rfl m_isinstance (po_name (pv 1)) rfl m_tuple boot_tuple)) (ss_cons (sp_if (PW.pt (pw_or2 (pt_not' (pt_bv (pv_isi (t := .tuple) rfl m_isinstance (po_name (pv 0)) rfl m_tuple boot_tuple))) (pw_or1 (pt_cmp' (op_gNe hu) (po_val (pv_callB (cr_gLen rfl) rfl m_len boot_len (ps_cons (po_name (pv 0)) ps_nil))) (po_val (pv_callB (cr_gLen rfl) rfl m_len boot_len (ps_cons (po_name (pv 1)) ps_nil))))))) (ss_one (sp_ret (pv_opd po_bl))) ss_nil) (ss_one (sp_ret (pv_callB (cr_gAll rfl) rfl m_all boot_all (ps_cons (po_val (pv_lc (own := [("at", 2)]) rfl hN (si_rng1 rfl m_range (po_val (pv_callB (cr_gLen rfl) rfl m_len boot_len (ps_cons (po_name (pv 1)) ps_nil)))) (blkOk_by (by kernel_rfl)) (fun _ _ _ _ _ => (tg_name (i := 2) hN rfl (by first | exact .inl rfl | exact .inr rfl))) (fun _ _ _ _ _ => pts_none) (fun _ _ _ _ _ => (po_val (pc_call (m := [false, false]) c_law_same hr rfl rfl (ps_cons (po_val (pv_ix (ix_gSub hu) (po_name (pv 0)) (po_name (pv 2)))) (ps_cons (po_val (pv_ix (ix_gSub hu) (po_name (pv 1)) (po_name (pv 2)))) ps_nil))))))) ps_nil))))) ss_nil) (ss_one (sp_ret (pv_and (pv_cmp op_gIs (po_name (pv 0)) po_non) (pe_one (pv_cmp op_gIs (po_name (pv 1)) po_non)))))))))
theorem ok_law_same (S : Stands K mg "_law_same" s_law_same ["told", "due"]) (m_all : mg "all" = none) (m_bool : mg "bool" = none) (m_int : mg "int" = none) (m_isinstance : mg "isinstance" = none) (m_len : mg "len" = none) (m_range : mg "range" = none) (m_str : mg "str" = none) (m_tuple : mg "tuple" = none) : ∀ j : Nat, Callee P w K mg base "_law_same" s_law_same (k + j) ["told", "due"] (ev_law_same j)
  | 0 => S.callee0
  | j + 1 => one_law_same S (ok_law_same S m_all m_bool m_int m_isinstance m_len m_range m_str m_tuple j) m_all m_bool m_int m_isinstance m_len m_range m_str m_tuple
abbrev s_law_element : Stmt := topS 22
theorem sc_law_element : FnScope ["p", "number"] ["p", "number"] (defScope s_law_element) := ⟨rfl, rfl, rfl, by decide +kernel, rfl, by decide +kernel, by decide +kernel⟩
theorem ok_law_element (S : Stands K mg "_law_element" s_law_element ["p", "number"]) (m_int : mg "int" = none) : Callee P w K mg base "_law_element" s_law_element (k + 1) ["p", "number"] ev_law_element := S.callee (N := ["p", "number"]) (m := [false, false]) sc_law_element rfl fun f cdv A outer s H E hr => by
  have hN := sc_law_element.nd
  have hu := hu_room hr
  have hu1 := hu_room1 hr
  exact (ss_one (sp_ret (pv_ite (pt_cmp' (op_gEq hu) (po_name (pv 0)) po_int) (pv_opd (po_name (pv 1))) (pv_op op_gMod (po_val (pv_callTy cr_gInt rfl m_int boot_int (ps_cons (po_name (pv 1)) ps_nil))) (po_name (pv 0))))))
abbrev s_law_tidy : Stmt := topS 23
theorem sc_law_tidy : FnScope ["p", "found", "powers"] ["p", "found"] (defScope s_law_tidy) := ⟨rfl, rfl, rfl, by decide +kernel, rfl, by decide +kernel, by decide +kernel⟩
theorem ok_law_tidy (S : Stands K mg "_law_tidy" s_law_tidy ["p", "found"]) (m_sorted : mg "sorted" = none) (m_tuple : mg "tuple" = none) (c_law_element : Callee P w K mg base "_law_element" s_law_element k ["p", "number"] ev_law_element) : Callee P w K mg base "_law_tidy" s_law_tidy (k + 1) ["p", "found"] ev_law_tidy := S.callee (N := ["p", "found", "powers"]) (m := [false, false]) sc_law_tidy rfl fun f cdv A outer s H E hr => by
  have hN := sc_law_tidy.nd
  have hu := hu_room hr
  have hu1 := hu_room1 hr
  exact (ss_one (sp_ret (pv_callTy cr_gTuple rfl m_tuple boot_tuple (ps_cons (po_val (pv_lc (own := [("powers", 2)]) rfl hN (si_seq (po_val (pv_callB (cr_gSorted rfl hu) rfl m_sorted boot_sorted (ps_cons (po_name (pv 1)) ps_nil)))) (blkOk_by (by kernel_rfl)) (fun _ _ _ _ _ => (tg_name (i := 2) hN rfl (by first | exact .inl rfl | exact .inr rfl))) (fun _ _ _ _ _ => (pts_one (pt_cmp' (op_gNe hu) (po_val (pc_call (m := [false, false]) c_law_element hr rfl rfl (ps_cons (po_name (pv 0)) (ps_cons (po_val (pv_ix (ix_gSub hu) (po_name (pv 1)) (po_name (pv 2)))) ps_nil)))) po_int))) (fun _ _ _ _ _ => (po_val (pv_tup (ps_cons (po_name (pv 2)) (ps_cons (po_val (pc_call (m := [false, false]) c_law_element hr rfl rfl (ps_cons (po_name (pv 0)) (ps_cons (po_val (pv_ix (ix_gSub hu) (po_name (pv 1)) (po_name (pv 2)))) ps_nil)))) ps_nil))))))) ps_nil))))
abbrev s_law_order : Stmt := topS 24
theorem sc_law_order : FnScope ["deal", "n"] ["deal", "n"] (defScope s_law_order) := ⟨rfl, rfl, rfl, by decide +kernel, rfl, by decide +kernel, by decide +kernel⟩
theorem ok_law_order (S : Stands K mg "_law_order" s_law_order ["deal", "n"]) (m_list : mg "list" = none) (m_range : mg "range" = none) (m_tuple : mg "tuple" = none) (c_law_mixed : Callee P w K mg base "_law_mixed" s_law_mixed k ["deal", "some"] ev_law_mixed) : Callee P w K mg base "_law_order" s_law_order (k + 1) ["deal", "n"] ev_law_order := S.callee (N := ["deal", "n"]) (m := [true, false]) sc_law_order rfl fun f cdv A outer s H E hr => by
  have hN := sc_law_order.nd
  have hu := hu_room hr
  have hu1 := hu_room1 hr
  exact (ss_one (sp_ret (pv_callTy cr_gTuple rfl m_tuple boot_tuple (ps_cons (po_val (pc_call (m := [true, false]) c_law_mixed hr rfl rfl (ps_cons (po_name (pv 0)) (ps_cons (po_val (pv_lrg rfl rfl m_list rfl m_range (po_name (pv 1)))) ps_nil)))) ps_nil))))
abbrev s_law_plus_powers : Stmt := topS 25
theorem sc_law_plus_powers : FnScope ["powers", "more", "at"] ["powers", "more"] (defScope s_law_plus_powers) := ⟨rfl, rfl, rfl, by decide +kernel, rfl, by decide +kernel, by decide +kernel⟩
theorem ok_law_plus_powers (S : Stands K mg "_law_plus_powers" s_law_plus_powers ["powers", "more"]) (m_len : mg "len" = none) (m_range : mg "range" = none) (m_tuple : mg "tuple" = none) : Callee P w K mg base "_law_plus_powers" s_law_plus_powers (k + 1) ["powers", "more"] ev_law_plus_powers := S.callee (N := ["powers", "more", "at"]) (m := [false, false]) sc_law_plus_powers rfl fun f cdv A outer s H E hr => by
  have hN := sc_law_plus_powers.nd
  have hu := hu_room hr
  have hu1 := hu_room1 hr
  exact (ss_one (sp_ret (pv_callTy cr_gTuple rfl m_tuple boot_tuple (ps_cons (po_val (pv_lc (own := [("at", 2)]) rfl hN (si_rng1 rfl m_range (po_val (pv_callB (cr_gLen rfl) rfl m_len boot_len (ps_cons (po_name (pv 0)) ps_nil)))) (blkOk_by (by kernel_rfl)) (fun _ _ _ _ _ => (tg_name (i := 2) hN rfl (by first | exact .inl rfl | exact .inr rfl))) (fun _ _ _ _ _ => pts_none) (fun _ _ _ _ _ => (po_val (pv_op op_gAdd (po_val (pv_ix (ix_gSub hu) (po_name (pv 0)) (po_name (pv 2)))) (po_val (pv_ix (ix_gSub hu) (po_name (pv 1)) (po_name (pv 2))))))))) ps_nil))))
abbrev s_law_is_ahead : Stmt := topS 26
theorem sc_law_is_ahead : FnScope ["order", "one", "other", "at"] ["order", "one", "other"] (defScope s_law_is_ahead) := ⟨rfl, rfl, rfl, by decide +kernel, rfl, by decide +kernel, by decide +kernel⟩
theorem ok_law_is_ahead (S : Stands K mg "_law_is_ahead" s_law_is_ahead ["order", "one", "other"]) : Callee P w K mg base "_law_is_ahead" s_law_is_ahead (k + 1) ["order", "one", "other"] ev_law_is_ahead := S.callee (N := ["order", "one", "other", "at"]) (m := [false, false, false]) sc_law_is_ahead rfl fun f cdv A outer s H E hr => by
  have hN := sc_law_is_ahead.nd
  have hu := hu_room hr
  have hu1 := hu_room1 hr
  exact (ss_cons (sp_for PassesOwn.never rfl (si_seq (po_val (pv_rev (po_name (pv 0))))) (tg_name (i := 3) hN rfl (by first | exact .inl rfl | exact .inr rfl)) (ss_one (sp_if (pt_cmp' (op_gNe hu) (po_val (pv_ix (ix_gSub hu) (po_name (pv 1)) (po_name (pv 3)))) (po_val (pv_ix (ix_gSub hu) (po_name (pv 2)) (po_name (pv 3))))) (ss_one (sp_ret (pv_cmp (op_gLt hu) (po_val (pv_ix (ix_gSub hu) (po_name (pv 1)) (po_name (pv 3)))) (po_val (pv_ix (ix_gSub hu) (po_name (pv 2)) (po_name (pv 3))))))) ss_nil))) (ss_one (sp_ret (pv_opd po_bl))))
abbrev s_law_some : Stmt := topS 27
theorem sc_law_some : FnScope ["deal", "n", "many", "bound", "found", "turn", "one", "step", "at"] ["deal", "n", "many", "bound"] (defScope s_law_some) := ⟨rfl, rfl, rfl, by decide +kernel, rfl, by decide +kernel, by decide +kernel⟩
theorem ok_law_some (S : Stands K mg "_law_some" s_law_some ["deal", "n", "many", "bound"]) (m_list : mg "list" = none) (m_range : mg "range" = none) (m_tuple : mg "tuple" = none) (c_law_any : Callee P w K mg base "_law_any" s_law_any k ["deal", "bound"] anyF) (c_law_of : Callee P w K mg base "_law_of" s_law_of k ["deal", "some"] ev_law_of) : Callee P w K mg base "_law_some" s_law_some (k + 1) ["deal", "n", "many", "bound"] ev_law_some := S.callee (N := ["deal", "n", "many", "bound", "found", "turn", "one", "step", "at"]) (m := [true, false, false, false]) sc_law_some rfl fun f cdv A outer s H E hr => by
  have hN := sc_law_some.nd
  have hu := hu_room hr
  have hu1 := hu_room1 hr
  exact (ss_cons (sp_set (i := 4) hN rfl (by first | exact .inl rfl | exact .inr rfl) (pv_lst (ps_cons (po_val (pv_callTy cr_gTuple rfl m_tuple boot_tuple (ps_cons (po_val (pv_lc (own := [("at", 8)]) rfl hN (si_rng1 rfl m_range (po_name (pv 1))) (blkOk_by (by kernel_rfl)) (fun _ _ _ _ _ => (tg_name (i := 8) hN rfl (by first | exact .inl rfl | exact .inr rfl))) (fun _ _ _ _ _ => pts_none) (fun _ _ _ _ _ => (po_val (pc_call (m := [true, false]) c_law_any hr rfl rfl (ps_cons (po_name (pv 0)) (ps_cons (po_name (pv 3)) ps_nil))))))) ps_nil))) ps_nil))) (ss_cons (sp_for PassesOwn.never rfl (si_rng1 rfl m_range (po_name (pv 2))) (tg_name (i := 5) hN rfl (by first | exact .inl rfl | exact .inr rfl)) (ss_cons (sp_set (i := 6) hN rfl (by first | exact .inl rfl | exact .inr rfl) (pv_callTy cr_gList rfl m_list boot_list (ps_cons (po_val (pc_callB (m := [true, false]) c_law_of hr rfl rfl (ps_cons (po_name (pv 0)) (ps_cons (po_name (pv 4)) ps_nil)))) ps_nil))) (ss_cons (sp_for PassesOwn.never rfl (si_rng1 rfl m_range (po_val (pc_callB (m := [true, false]) c_law_of hr rfl rfl (ps_cons (po_name (pv 0)) (ps_cons (po_val (pv_lst (ps_cons po_int (ps_cons po_int (ps_cons po_int (ps_cons (po_name (pv 1)) ps_nil)))))) ps_nil))))) (tg_name (i := 7) hN rfl (by first | exact .inl rfl | exact .inr rfl)) (ss_one (sp_put (i := 6) hu1 (pv 6) (po_val (pc_call (m := [true, false]) c_law_any hr rfl rfl (ps_cons (po_name (pv 0)) (ps_cons (po_name (pv 1)) ps_nil)))) (po_val (pc_call (m := [true, false]) c_law_any hr rfl rfl (ps_cons (po_name (pv 0)) (ps_cons (po_name (pv 3)) ps_nil))))))) (ss_one (sp_if (pt_cmp' (op_gNotIn hu) (po_val (pv_callTy cr_gTuple rfl m_tuple boot_tuple (ps_cons (po_name (pv 6)) ps_nil))) (po_name (pv 4))) (ss_one (sp_expr (pv_app (pv 4) (po_val (pv_callTy cr_gTuple rfl m_tuple boot_tuple (ps_cons (po_name (pv 6)) ps_nil)))))) ss_nil))))) (ss_one (sp_ret (pv_move (pv 4))))))
abbrev s_law_polynomial : Stmt := topS 28
theorem sc_law_polynomial : FnScope ["deal", "p", "n", "many", "bound", "found", "powers"] ["deal", "p", "n", "many", "bound"] (defScope s_law_polynomial) := ⟨rfl, rfl, rfl, by decide +kernel, rfl, by decide +kernel, by decide +kernel⟩
theorem ok_law_polynomial (S : Stands K mg "_law_polynomial" s_law_polynomial ["deal", "p", "n", "many", "bound"]) (c_law_any : Callee P w K mg base "_law_any" s_law_any k ["deal", "bound"] anyF) (c_law_some : Callee P w K mg base "_law_some" s_law_some k ["deal", "n", "many", "bound"] ev_law_some) (c_law_tidy : Callee P w K mg base "_law_tidy" s_law_tidy k ["p", "found"] ev_law_tidy) : Callee P w K mg base "_law_polynomial" s_law_polynomial (k + 1) ["deal", "p", "n", "many", "bound"] ev_law_polynomial := S.callee (N := ["deal", "p", "n", "many", "bound", "found", "powers"]) (m := [true, false, false, false, false]) sc_law_polynomial rfl fun f cdv A outer s H E hr => by
  have hN := sc_law_polynomial.nd
  have hu := hu_room hr
  have hu1 := hu_room1 hr
  exact (ss_cons (sp_set (i := 5) hN rfl (by first | exact .inl rfl | exact .inr rfl) pv_dic) (ss_cons (sp_for PassesOwn.never rfl (si_seq (po_val (pc_call (m := [true, false, false, false]) c_law_some hr rfl rfl (ps_cons (po_name (pv 0)) (ps_cons (po_name (pv 2)) (ps_cons (po_name (pv 3)) (ps_cons (po_name (pv 4)) ps_nil))))))) (tg_name (i := 6) hN rfl (by first | exact .inl rfl | exact .inr rfl)) (ss_one (sp_put (i := 5) hu1 (pv 5) (po_name (pv 6)) (po_val (pv_ite (pt_cmp' (op_gEq hu) (po_name (pv 1)) po_int) (pv_op op_gSub (po_val (pc_call (m := [true, false]) c_law_any hr rfl rfl (ps_cons (po_name (pv 0)) (ps_cons po_int ps_nil)))) po_int) (pc_call (m := [true, false]) c_law_any hr rfl rfl (ps_cons (po_name (pv 0)) (ps_cons (po_name (pv 1)) ps_nil)))))))) (ss_one (sp_ret (pc_call (m := [false, false]) c_law_tidy hr rfl rfl (ps_cons (po_name (pv 1)) (ps_cons (po_name (pv 5)) ps_nil)))))))
abbrev s_law_due_head : Stmt := topS 29
theorem sc_law_due_head : FnScope ["polynomial", "order", "found", "powers", "factor"] ["polynomial", "order"] (defScope s_law_due_head) := ⟨rfl, rfl, rfl, by decide +kernel, rfl, by decide +kernel, by decide +kernel⟩
theorem ok_law_due_head (S : Stands K mg "_law_due_head" s_law_due_head ["polynomial", "order"]) (c_law_is_ahead : Callee P w K mg base "_law_is_ahead" s_law_is_ahead k ["order", "one", "other"] ev_law_is_ahead) : Callee P w K mg base "_law_due_head" s_law_due_head (k + 1) ["polynomial", "order"] ev_law_due_head := S.callee (N := ["polynomial", "order", "found", "powers", "factor"]) (m := [false, false]) sc_law_due_head rfl fun f cdv A outer s H E hr => by
  have hN := sc_law_due_head.nd
  have hu := hu_room hr
  have hu1 := hu_room1 hr
  exact (ss_cons (sp_set (i := 2) hN rfl (by first | exact .inl rfl | exact .inr rfl) (pv_opd po_non)) (ss_cons (sp_for PassesOwn.never rfl (si_seq (po_name (pv 0))) (tg_tup rfl (tg_cons (tg_name (i := 3) hN rfl (by first | exact .inl rfl | exact .inr rfl)) (tg_cons (tg_name (i := 4) hN rfl (by first | exact .inl rfl | exact .inr rfl)) tg_nil))) (ss_one (sp_if (PW.pt (pw_or2 (pt_cmp' op_gIs (po_name (pv 2)) po_non) (pw_or1 (pt_bv (pc_call (m := [false, false, false]) c_law_is_ahead hr rfl rfl (ps_cons (po_name (pv 1)) (ps_cons (po_name (pv 2)) (ps_cons (po_name (pv 3)) ps_nil)))))))) (ss_one (sp_set (i := 2) hN rfl (by first | exact .inl rfl | exact .inr rfl) (pv_opd (po_name (pv 3))))) ss_nil))) (ss_one (sp_ret (pv_move (pv 2))))))
abbrev s_law_near_orders : Stmt := topS 30
theorem sc_law_near_orders : FnScope ["deal", "n", "order", "at", "other", "found", "one", "spot"] ["deal", "n", "order"] (defScope s_law_near_orders) := ⟨rfl, rfl, rfl, by decide +kernel, rfl, by decide +kernel, by decide +kernel⟩
theorem ok_law_near_orders (S : Stands K mg "_law_near_orders" s_law_near_orders ["deal", "n", "order"]) (m_enumerate : mg "enumerate" = none) (m_list : mg "list" = none) (m_str : mg "str" = none) (c_law_any : Callee P w K mg base "_law_any" s_law_any k ["deal", "bound"] anyF) : Callee P w K mg base "_law_near_orders" s_law_near_orders (k + 1) ["deal", "n", "order"] ev_law_near_orders := S.callee (N := ["deal", "n", "order", "at", "other", "found", "one", "spot"]) (m := [true, false, false]) sc_law_near_orders rfl fun f cdv A outer s H E hr => by
  have hN := sc_law_near_orders.nd
  have hu := hu_room hr
  have hu1 := hu_room1 hr
  exact (ss_cons (sp_par (i := 3) (j := 4) rfl hN rfl rfl (by decide) rfl rfl (pc_call (m := [true, false]) c_law_any hr rfl rfl (ps_cons (po_name (pv 0)) (ps_cons (po_name (pv 1)) ps_nil))) (pc_call (m := [true, false]) c_law_any hr rfl rfl (ps_cons (po_name (pv 0)) (ps_cons (po_name (pv 1)) ps_nil)))) (ss_cons (sp_set (i := 5) hN rfl (by first | exact .inl rfl | exact .inr rfl) (pv_lst (ps_cons (po_val (pv_tup (ps_cons (po_name (pv 2)) (ps_cons po_bl ps_nil)))) (ps_cons (po_val (pv_tup (ps_cons (po_val (pv_callTy cr_gList rfl m_list boot_list (ps_cons (po_name (pv 2)) ps_nil))) (ps_cons po_bl ps_nil)))) (ps_cons (po_val (pv_tup (ps_cons (po_val (pv_op op_gAdd (po_name (pv 2)) (po_val (pv_tup (ps_cons (po_name (pv 1)) ps_nil))))) (ps_cons po_bl ps_nil)))) (ps_cons (po_val (pv_tup (ps_cons (po_val (pv_cut (po_name (pv 2)) oi_none (oi_some (po_val (pv_un un_gNeg po_int))))) (ps_cons po_bl ps_nil)))) (ps_cons (po_val (pv_tup (ps_cons (po_val (pv_rev (po_name (pv 2)))) (ps_cons po_bl ps_nil)))) (ps_cons (po_val (pv_tup (ps_cons po_non (ps_cons po_bl ps_nil)))) (ps_cons (po_val (pv_tup (ps_cons (po_name (pv 1)) (ps_cons po_bl ps_nil)))) (ps_cons (po_val (pv_tup (ps_cons po_str (ps_cons po_bl ps_nil)))) ps_nil)))))))))) (ss_cons (sp_for PassesOwn.never rfl (si_seq (po_val (pv_lst (ps_cons (po_name (pv 1)) (ps_cons (po_val (pv_un un_gNeg po_int)) (ps_cons po_non (ps_cons (po_val (pv_callTy cr_gStr rfl m_str boot_str (ps_cons (po_val (pv_ix (ix_gSub hu) (po_name (pv 2)) (po_name (pv 3)))) ps_nil))) (ps_cons (po_val (pv_tup (ps_cons (po_val (pv_ix (ix_gSub hu) (po_name (pv 2)) (po_name (pv 3)))) ps_nil))) ps_nil)))))))) (tg_name (i := 6) hN rfl (by first | exact .inl rfl | exact .inr rfl)) (ss_one (sp_expr (pv_app (pv 5) (po_val (pv_tup (ps_cons (po_val (pv_op op_gAdd (po_val (pv_op op_gAdd (po_val (pv_cut (po_name (pv 2)) oi_none (oi_some (po_name (pv 3))))) (po_val (pv_tup (ps_cons (po_name (pv 6)) ps_nil))))) (po_val (pv_cut (po_name (pv 2)) (oi_some (po_val (pv_op op_gAdd (po_name (pv 3)) po_int))) oi_none)))) (ps_cons po_bl ps_nil)))))))) (ss_cons (sp_if (pt_cmp' (op_gNe hu) (po_name (pv 4)) (po_name (pv 3))) (ss_one (sp_expr (pv_app (pv 5) (po_val (pv_tup (ps_cons (po_val (pv_op op_gAdd (po_val (pv_op op_gAdd (po_val (pv_cut (po_name (pv 2)) oi_none (oi_some (po_name (pv 3))))) (po_val (pv_tup (ps_cons (po_val (pv_ix (ix_gSub hu) (po_name (pv 2)) (po_name (pv 4)))) ps_nil))))) (po_val (pv_cut (po_name (pv 2)) (oi_some (po_val (pv_op op_gAdd (po_name (pv 3)) po_int))) oi_none)))) (ps_cons po_bl ps_nil))))))) ss_nil) (ss_cons (sp_for PassesOwn.never rfl (si_enum rfl m_enumerate (po_name (pv 2))) (tg_tup rfl (tg_cons (tg_name (i := 7) hN rfl (by first | exact .inl rfl | exact .inr rfl)) (tg_cons (tg_name (i := 6) hN rfl (by first | exact .inl rfl | exact .inr rfl)) tg_nil))) (ss_one (sp_if (pt_cmp' (op_gLt hu) (po_name (pv 6)) po_int) (ss_one (sp_expr (pv_app (pv 5) (po_val (pv_tup (ps_cons (po_val (pv_op op_gAdd (po_val (pv_op op_gAdd (po_val (pv_cut (po_name (pv 2)) oi_none (oi_some (po_name (pv 7))))) (po_val (pv_tup (ps_cons (po_val (pv_cmp (op_gEq hu) (po_name (pv 6)) po_int)) ps_nil))))) (po_val (pv_cut (po_name (pv 2)) (oi_some (po_val (pv_op op_gAdd (po_name (pv 7)) po_int))) oi_none)))) (ps_cons po_bl ps_nil))))))) ss_nil))) (ss_one (sp_ret (pv_move (pv 5)))))))))
abbrev s_theLaw : Stmt := topS 31
theorem sc_theLaw : FnScope ["script", "deal", "p", "n", "order", "value", "due", "some", "told", "one", "f", "g", "first", "second", "product", "lead", "other", "at", "powers", "factor"] ["script"] (defScope s_theLaw) := ⟨rfl, rfl, rfl, by decide +kernel, rfl, by decide +kernel, by decide +kernel⟩
theorem ok_theLaw (S : Stands K mg "law" s_theLaw ["script"]) (m_isinstance : mg "isinstance" = none) (m_len : mg "len" = none) (m_range : mg "range" = none) (m_tuple : mg "tuple" = none) (c_law_any : Callee P w K mg base "_law_any" s_law_any k ["deal", "bound"] anyF) (c_law_draw : Callee P w K mg base "_law_draw" s_law_draw k ["script", "salt"] ev_law_draw) (c_law_due_head : Callee P w K mg base "_law_due_head" s_law_due_head k ["polynomial", "order"] ev_law_due_head) (c_law_element : Callee P w K mg base "_law_element" s_law_element k ["p", "number"] ev_law_element) (c_law_is_ahead : Callee P w K mg base "_law_is_ahead" s_law_is_ahead k ["order", "one", "other"] ev_law_is_ahead) (c_law_near_orders : Callee P w K mg base "_law_near_orders" s_law_near_orders k ["deal", "n", "order"] ev_law_near_orders) (c_law_of : Callee P w K mg base "_law_of" s_law_of k ["deal", "some"] ev_law_of) (c_law_order : Callee P w K mg base "_law_order" s_law_order k ["deal", "n"] ev_law_order) (c_law_plus_powers : Callee P w K mg base "_law_plus_powers" s_law_plus_powers k ["powers", "more"] ev_law_plus_powers) (c_law_polynomial : Callee P w K mg base "_law_polynomial" s_law_polynomial k ["deal", "p", "n", "many", "bound"] ev_law_polynomial) (c_law_same : Callee P w K mg base "_law_same" s_law_same k ["told", "due"] (ev_law_same 6)) (c_law_some : Callee P w K mg base "_law_some" s_law_some k ["deal", "n", "many", "bound"] ev_law_some) (c_along : Callee P w K mg base "along" s_along k ["order", "some"] ev_along) (c_factor_of : Callee P w K mg base "factor_of" s_factor_of k ["polynomial", "powers"] ev_factor_of) (c_head : Callee P w K mg base "head" s_head k ["polynomial", "order"] ev_head) (c_is_ahead : Callee P w K mg base "is_ahead" s_is_ahead k ["order", "one", "other"] ev_is_ahead) (c_is_order : Callee P w K mg base "is_order" s_is_order k ["n", "value"] ev_is_order) (c_times : Callee P w K mg base "times" s_times k ["p", "one", "other"] ev_times) : Callee P w K mg base "law" s_theLaw (k + 1) ["script"] ev_theLaw := S.callee (N := ["script", "deal", "p", "n", "order", "value", "due", "some", "told", "one", "f", "g", "first", "second", "product", "lead", "other", "at", "powers", "factor"]) (m := [false]) sc_theLaw rfl fun f cdv A outer s H E hr => by
  have hN := sc_theLaw.nd
  have hu := hu_room hr
  have hu1 := hu_room1 hr
  exact (ss_cons (sp_set (i := 1) hN rfl (by first | exact .inl rfl | exact .inr rfl) (pc_call (m := [false, false]) c_law_draw hr rfl rfl (ps_cons (po_name (pv 0)) (ps_cons po_int ps_nil)))) (ss_cons (sp_par (i := 2) (j := 3) rfl hN rfl rfl (by decide) rfl rfl (pc_call (m := [true, false]) c_law_of hr rfl rfl (ps_cons (po_name (pv 1)) (ps_cons (po_val (pv_lst (ps_cons po_int (ps_cons po_int (ps_cons po_int (ps_cons po_int (ps_cons po_int (ps_cons po_int ps_nil)))))))) ps_nil))) (pc_call (m := [true, false]) c_law_of hr rfl rfl (ps_cons (po_name (pv 1)) (ps_cons (po_val (pv_lst (ps_cons po_int (ps_cons po_int (ps_cons po_int (ps_cons po_int (ps_cons po_int (ps_cons (po_val (pv_op op_gAdd po_int (po_val (pc_call (m := [true, false]) c_law_any hr rfl rfl (ps_cons (po_name (pv 1)) (ps_cons po_int ps_nil)))))) ps_nil)))))))) ps_nil)))) (ss_cons (sp_set (i := 4) hN rfl (by first | exact .inl rfl | exact .inr rfl) (pc_call (m := [true, false]) c_law_order hr rfl rfl (ps_cons (po_name (pv 1)) (ps_cons (po_name (pv 3)) ps_nil)))) (ss_cons (sp_for PassesOwn.never rfl (si_seq (po_val (pc_call (m := [true, false, false]) c_law_near_orders hr rfl rfl (ps_cons (po_name (pv 1)) (ps_cons (po_name (pv 3)) (ps_cons (po_name (pv 4)) ps_nil)))))) (tg_tup rfl (tg_cons (tg_name (i := 5) hN rfl (by first | exact .inl rfl | exact .inr rfl)) (tg_cons (tg_name (i := 6) hN rfl (by first | exact .inl rfl | exact .inr rfl)) tg_nil))) (ss_one (sp_if (PW.pt (pw_or2 (pt_not' (pt_bv (pc_call (m := [false, false]) c_law_same hr rfl rfl (ps_cons (po_val (pc_call (m := [false, false]) c_is_order hr rfl rfl (ps_cons (po_name (pv 3)) (ps_cons (po_name (pv 5)) ps_nil)))) (ps_cons (po_name (pv 6)) ps_nil))))) (pw_or1 (pt_not' (pt_bv (pc_call (m := [false, false]) c_law_same hr rfl rfl (ps_cons (po_val (pc_callK0 (m := [false, false]) (ks := ["value", "n"]) (perm := [1, 0]) (n' := 2) c_is_order hr rfl rfl (by decide) (fun _ _ _ _ _ _ us ws h1 h2 => match us, ws, h1, h2 with | [], [_, _], _, _ => rfl) (pk_one (po_name (pv 5)) (pk_one (po_name (pv 3)) pk_none)))) (ps_cons (po_name (pv 6)) ps_nil)))))))) (ss_one (sp_ret (pv_opd po_bl))) ss_nil))) (ss_cons (sp_set (i := 7) hN rfl (by first | exact .inl rfl | exact .inr rfl) (pc_call (m := [true, false, false, false]) c_law_some hr rfl rfl (ps_cons (po_name (pv 1)) (ps_cons (po_name (pv 3)) (ps_cons (po_val (pc_call (m := [true, false]) c_law_of hr rfl rfl (ps_cons (po_name (pv 1)) (ps_cons (po_val (pv_lst (ps_cons po_int (ps_cons po_int (ps_cons po_int ps_nil))))) ps_nil)))) (ps_cons (po_val (pc_call (m := [true, false]) c_law_of hr rfl rfl (ps_cons (po_name (pv 1)) (ps_cons (po_val (pv_lst (ps_cons po_int (ps_cons po_int (ps_cons po_int ps_nil))))) ps_nil)))) ps_nil)))))) (ss_cons (sp_set (i := 8) hN rfl (by first | exact .inl rfl | exact .inr rfl) (pc_call (m := [false, false]) c_along hr rfl rfl (ps_cons (po_name (pv 4)) (ps_cons (po_val (pv_ite (pt_cmp' (op_gEq hu) (po_val (pc_call (m := [true, false]) c_law_any hr rfl rfl (ps_cons (po_name (pv 1)) (ps_cons po_int ps_nil)))) po_int) (pv_opd (po_name (pv 7))) (pv_callTy cr_gTuple rfl m_tuple boot_tuple (ps_cons (po_name (pv 7)) ps_nil)))) ps_nil)))) (ss_cons (sp_if (PW.pt (pw_or2 (pt_not' (pt_bv (pv_isi (t := .tuple) rfl m_isinstance (po_name (pv 8)) rfl m_tuple boot_tuple))) (pw_or2 (pt_cmp' (op_gNe hu) (po_val (pv_callB (cr_gLen rfl) rfl m_len boot_len (ps_cons (po_name (pv 8)) ps_nil))) (po_val (pv_callB (cr_gLen rfl) rfl m_len boot_len (ps_cons (po_name (pv 7)) ps_nil)))) (pw_or1 (pt_cmp' (op_gNe hu) (po_val (pv_lc (own := [("one", 9)]) rfl hN (si_seq (po_name (pv 7))) (blkOk_by (by kernel_rfl)) (fun _ _ _ _ _ => (tg_name (i := 9) hN rfl (by first | exact .inl rfl | exact .inr rfl))) (fun _ _ _ _ _ => (pts_one (pt_cmp' (op_gNotIn hu) (po_name (pv 9)) (po_name (pv 8))))) (fun _ _ _ _ _ => (po_name (pv 9))))) (po_val (pv_lst ps_nil))))))) (ss_one (sp_ret (pv_opd po_bl))) ss_nil) (ss_cons (sp_if (PW.pt (pw_or2 (pt_cmp' (op_gNe hu) (po_val (pv_lc (own := [("at", 17)]) rfl hN (si_rng1 rfl m_range (po_val (pv_op op_gSub (po_val (pv_callB (cr_gLen rfl) rfl m_len boot_len (ps_cons (po_name (pv 8)) ps_nil))) po_int))) (blkOk_by (by kernel_rfl)) (fun _ _ _ _ _ => (tg_name (i := 17) hN rfl (by first | exact .inl rfl | exact .inr rfl))) (fun _ _ _ _ _ => (pts_one (pt_not' (pt_bv (pc_call (m := [false, false, false]) c_law_is_ahead hr rfl rfl (ps_cons (po_name (pv 4)) (ps_cons (po_val (pv_ix (ix_gSub hu) (po_name (pv 8)) (po_name (pv 17)))) (ps_cons (po_val (pv_ix (ix_gSub hu) (po_name (pv 8)) (po_val (pv_op op_gAdd (po_name (pv 17)) po_int)))) ps_nil)))))))) (fun _ _ _ _ _ => (po_name (pv 17))))) (po_val (pv_lst ps_nil))) (pw_or1 (pt_not' (pt_bv (pc_call (m := [false, false]) c_law_same hr rfl rfl (ps_cons (po_val (pc_callK0 (m := [false, false]) (ks := ["some", "order"]) (perm := [1, 0]) (n' := 2) c_along hr rfl rfl (by decide) (fun _ _ _ _ _ _ us ws h1 h2 => match us, ws, h1, h2 with | [], [_, _], _, _ => rfl) (pk_one (po_val (pv_rev (po_name (pv 8)))) (pk_one (po_name (pv 4)) pk_none)))) (ps_cons (po_name (pv 8)) ps_nil)))))))) (ss_one (sp_ret (pv_opd po_bl))) ss_nil) (ss_cons (sp_for PassesOwn.never rfl (si_seq (po_val (pv_cut (po_name (pv 7)) oi_none (oi_some po_int)))) (tg_name (i := 9) hN rfl (by first | exact .inl rfl | exact .inr rfl)) (ss_one (sp_for PassesOwn.never rfl (si_seq (po_name (pv 7))) (tg_name (i := 16) hN rfl (by first | exact .inl rfl | exact .inr rfl)) (ss_one (sp_if (pt_not' (pt_bv (pc_call (m := [false, false]) c_law_same hr rfl rfl (ps_cons (po_val (pc_call (m := [false, false, false]) c_is_ahead hr rfl rfl (ps_cons (po_name (pv 4)) (ps_cons (po_name (pv 9)) (ps_cons (po_name (pv 16)) ps_nil))))) (ps_cons (po_val (pc_call (m := [false, false, false]) c_law_is_ahead hr rfl rfl (ps_cons (po_name (pv 4)) (ps_cons (po_name (pv 9)) (ps_cons (po_name (pv 16)) ps_nil))))) ps_nil))))) (ss_one (sp_ret (pv_opd po_bl))) ss_nil))))) (ss_cons (sp_par (i := 10) (j := 11) rfl hN rfl rfl (by decide) rfl rfl (pc_call (m := [true, false, false, false, false]) c_law_polynomial hr rfl rfl (ps_cons (po_name (pv 1)) (ps_cons (po_name (pv 2)) (ps_cons (po_name (pv 3)) (ps_cons (po_val (pc_call (m := [true, false]) c_law_any hr rfl rfl (ps_cons (po_name (pv 1)) (ps_cons po_int ps_nil)))) (ps_cons po_int ps_nil)))))) (pc_call (m := [true, false, false, false, false]) c_law_polynomial hr rfl rfl (ps_cons (po_name (pv 1)) (ps_cons (po_name (pv 2)) (ps_cons (po_name (pv 3)) (ps_cons (po_val (pc_call (m := [true, false]) c_law_any hr rfl rfl (ps_cons (po_name (pv 1)) (ps_cons po_int ps_nil)))) (ps_cons po_int ps_nil))))))) (ss_cons (sp_unp (pv_tup (ps_cons (po_val (pc_call (m := [false, false]) c_law_due_head hr rfl rfl (ps_cons (po_name (pv 10)) (ps_cons (po_name (pv 4)) ps_nil)))) (ps_cons (po_val (pc_call (m := [false, false]) c_law_due_head hr rfl rfl (ps_cons (po_name (pv 11)) (ps_cons (po_name (pv 4)) ps_nil)))) ps_nil))) (tg_tup rfl (tg_cons (tg_name (i := 12) hN rfl (by first | exact .inl rfl | exact .inr rfl)) (tg_cons (tg_name (i := 13) hN rfl (by first | exact .inl rfl | exact .inr rfl)) tg_nil)))) (ss_cons (sp_if (PW.pt (pw_or2 (pt_not' (pt_bv (pc_call (m := [false, false]) c_law_same hr rfl rfl (ps_cons (po_val (pc_call (m := [false, false]) c_head hr rfl rfl (ps_cons (po_name (pv 10)) (ps_cons (po_name (pv 4)) ps_nil)))) (ps_cons (po_name (pv 12)) ps_nil))))) (pw_or2 (pt_not' (pt_bv (pc_call (m := [false, false]) c_law_same hr rfl rfl (ps_cons (po_val (pc_callK0 (m := [false, false]) (ks := ["order", "polynomial"]) (perm := [1, 0]) (n' := 2) c_head hr rfl rfl (by decide) (fun _ _ _ _ _ _ us ws h1 h2 => match us, ws, h1, h2 with | [], [_, _], _, _ => rfl) (pk_one (po_name (pv 4)) (pk_one (po_name (pv 11)) pk_none)))) (ps_cons (po_name (pv 13)) ps_nil))))) (pw_or1 (pt_cmp' op_gIsNot (po_val (pc_call (m := [false, false]) c_head hr rfl rfl (ps_cons (po_val (pv_tup ps_nil)) (ps_cons (po_name (pv 4)) ps_nil)))) po_non))))) (ss_one (sp_ret (pv_opd po_bl))) ss_nil) (ss_cons (sp_set (i := 14) hN rfl (by first | exact .inl rfl | exact .inr rfl) (pc_call (m := [false, false, false]) c_times hr rfl rfl (ps_cons (po_name (pv 2)) (ps_cons (po_name (pv 10)) (ps_cons (po_name (pv 11)) ps_nil))))) (ss_cons (sp_if (PW.pt (pw_or2 (pt_cmp' op_gIs (po_name (pv 12)) po_non) (pw_or1 (pt_cmp' op_gIs (po_name (pv 13)) po_non)))) (ss_one (sp_ret (pv_cmp op_gIs (po_val (pc_call (m := [false, false]) c_head hr rfl rfl (ps_cons (po_name (pv 14)) (ps_cons (po_name (pv 4)) ps_nil)))) po_non))) ss_nil) (ss_cons (sp_set (i := 6) hN rfl (by first | exact .inl rfl | exact .inr rfl) (pc_call (m := [false, false]) c_law_plus_powers hr rfl rfl (ps_cons (po_name (pv 12)) (ps_cons (po_name (pv 13)) ps_nil)))) (ss_cons (sp_if (pt_not' (pt_bv (pc_call (m := [false, false]) c_law_same hr rfl rfl (ps_cons (po_val (pc_call (m := [false, false]) c_head hr rfl rfl (ps_cons (po_name (pv 14)) (ps_cons (po_name (pv 4)) ps_nil)))) (ps_cons (po_name (pv 6)) ps_nil))))) (ss_one (sp_ret (pv_opd po_bl))) ss_nil) (ss_cons (sp_set (i := 15) hN rfl (by first | exact .inl rfl | exact .inr rfl) (pv_op op_gMul (po_val (pv_ix (ix_gSub hu) (po_val (pv_lc (own := [("powers", 18), ("factor", 19)]) rfl hN (si_seq (po_name (pv 10))) (blkOk_by (by kernel_rfl)) (fun _ _ _ _ _ => (tg_tup rfl (tg_cons (tg_name (i := 18) hN rfl (by first | exact .inl rfl | exact .inr rfl)) (tg_cons (tg_name (i := 19) hN rfl (by first | exact .inl rfl | exact .inr rfl)) tg_nil)))) (fun _ _ _ _ _ => (pts_one (pt_cmp' (op_gEq hu) (po_name (pv 18)) (po_name (pv 12))))) (fun _ _ _ _ _ => (po_name (pv 19))))) po_int)) (po_val (pv_ix (ix_gSub hu) (po_val (pv_lc (own := [("powers", 18), ("factor", 19)]) rfl hN (si_seq (po_name (pv 11))) (blkOk_by (by kernel_rfl)) (fun _ _ _ _ _ => (tg_tup rfl (tg_cons (tg_name (i := 18) hN rfl (by first | exact .inl rfl | exact .inr rfl)) (tg_cons (tg_name (i := 19) hN rfl (by first | exact .inl rfl | exact .inr rfl)) tg_nil)))) (fun _ _ _ _ _ => (pts_one (pt_cmp' (op_gEq hu) (po_name (pv 18)) (po_name (pv 13))))) (fun _ _ _ _ _ => (po_name (pv 19))))) po_int)))) (ss_one (sp_ret (pc_call (m := [false, false]) c_law_same hr rfl rfl (ps_cons (po_val (pc_call (m := [false, false]) c_factor_of hr rfl rfl (ps_cons (po_name (pv 14)) (ps_cons (po_name (pv 6)) ps_nil)))) (ps_cons (po_val (pc_call (m := [false, false]) c_law_element hr rfl rfl (ps_cons (po_name (pv 2)) (ps_cons (po_name (pv 15)) ps_nil)))) ps_nil))))))))))))))))))))))
theorem all_ok
    (m_abs : mg "abs" = none)
    (m_all : mg "all" = none)
    (m_bool : mg "bool" = none)
    (m_enumerate : mg "enumerate" = none)
    (m_int : mg "int" = none)
    (m_isinstance : mg "isinstance" = none)
    (m_len : mg "len" = none)
    (m_list : mg "list" = none)
    (m_range : mg "range" = none)
    (m_sorted : mg "sorted" = none)
    (m_str : mg "str" = none)
    (m_tuple : mg "tuple" = none)
    (m_zip : mg "zip" = none)
    (S_is_integer : Stands K mg "is_integer" s_is_integer ["value"])
    (S_is_number : Stands K mg "is_number" s_is_number ["value"])
    (S_is_index : Stands K mg "is_index" s_is_index ["value", "many"])
    (S_is_order : Stands K mg "is_order" s_is_order ["n", "value"])
    (S_rank : Stands K mg "rank" s_rank ["order", "powers"])
    (S_is_ahead : Stands K mg "is_ahead" s_is_ahead ["order", "one", "other"])
    (S_along : Stands K mg "along" s_along ["order", "some"])
    (S_head : Stands K mg "head" s_head ["polynomial", "order"])
    (S_element : Stands K mg "element" s_element ["p", "number"])
    (S_gathered : Stands K mg "gathered" s_gathered ["p", "found"])
    (S_factor_of : Stands K mg "factor_of" s_factor_of ["polynomial", "powers"])
    (S_times : Stands K mg "times" s_times ["p", "one", "other"])
    (S_law_draw : Stands K mg "_law_draw" s_law_draw ["script", "salt"])
    (S_law_any : Stands K mg "_law_any" s_law_any ["deal", "bound"])
    (S_law_of : Stands K mg "_law_of" s_law_of ["deal", "some"])
    (S_law_mixed : Stands K mg "_law_mixed" s_law_mixed ["deal", "some"])
    (S_law_same : Stands K mg "_law_same" s_law_same ["told", "due"])
    (S_law_element : Stands K mg "_law_element" s_law_element ["p", "number"])
    (S_law_tidy : Stands K mg "_law_tidy" s_law_tidy ["p", "found"])
    (S_law_order : Stands K mg "_law_order" s_law_order ["deal", "n"])
    (S_law_plus_powers : Stands K mg "_law_plus_powers" s_law_plus_powers ["powers", "more"])
    (S_law_is_ahead : Stands K mg "_law_is_ahead" s_law_is_ahead ["order", "one", "other"])
    (S_law_some : Stands K mg "_law_some" s_law_some ["deal", "n", "many", "bound"])
    (S_law_polynomial : Stands K mg "_law_polynomial" s_law_polynomial ["deal", "p", "n", "many", "bound"])
    (S_law_due_head : Stands K mg "_law_due_head" s_law_due_head ["polynomial", "order"])
    (S_law_near_orders : Stands K mg "_law_near_orders" s_law_near_orders ["deal", "n", "order"])
    (S_theLaw : Stands K mg "law" s_theLaw ["script"]) : Callee P w K mg base "law" s_theLaw 7 ["script"] ev_theLaw := by
  have c_is_integer := ok_is_integer (P := P) (w := w) (base := base) (k := 0) S_is_integer m_bool m_int m_isinstance
  have c_is_number := ok_is_number (P := P) (w := w) (base := base) (k := 1) S_is_number (c_is_integer.mono (k := 1) (by decide))
  have c_is_index := ok_is_index (P := P) (w := w) (base := base) (k := 2) S_is_index (c_is_number.mono (k := 2) (by decide))
  have c_is_order := ok_is_order (P := P) (w := w) (base := base) (k := 3) S_is_order m_all m_isinstance m_len m_list m_range m_sorted m_tuple (c_is_index.mono (k := 3) (by decide))
  have c_rank := ok_rank (P := P) (w := w) (base := base) (k := 0) S_rank m_tuple
  have c_is_ahead := ok_is_ahead (P := P) (w := w) (base := base) (k := 1) S_is_ahead (c_rank.mono (k := 1) (by decide))
  have c_along := ok_along (P := P) (w := w) (base := base) (k := 1) S_along m_sorted m_tuple (c_rank.mono (k := 1) (by decide))
  have c_head := ok_head (P := P) (w := w) (base := base) (k := 2) S_head (c_along.mono (k := 2) (by decide))
  have c_element := ok_element (P := P) (w := w) (base := base) (k := 0) S_element m_int
  have c_gathered := ok_gathered (P := P) (w := w) (base := base) (k := 1) S_gathered m_sorted m_tuple (c_element.mono (k := 1) (by decide))
  have c_factor_of := ok_factor_of (P := P) (w := w) (base := base) (k := 0) S_factor_of
  have c_times := ok_times (P := P) (w := w) (base := base) (k := 2) S_times m_tuple m_zip (c_gathered.mono (k := 2) (by decide))
  have c_law_draw := ok_law_draw (P := P) (w := w) (base := base) (k := 0) S_law_draw m_abs m_int
  have c_law_any := ok_law_any (P := P) (w := w) (base := base) (k := 0) S_law_any m_int
  have c_law_of := ok_law_of (P := P) (w := w) (base := base) (k := 1) S_law_of m_len (c_law_any.mono (k := 1) (by decide))
  have c_law_mixed := ok_law_mixed (P := P) (w := w) (base := base) (k := 1) S_law_mixed m_len m_list (c_law_any.mono (k := 1) (by decide))
  have c_law_same := ok_law_same (P := P) (w := w) (base := base) (k := 0) S_law_same m_all m_bool m_int m_isinstance m_len m_range m_str m_tuple 6
  have c_law_element := ok_law_element (P := P) (w := w) (base := base) (k := 0) S_law_element m_int
  have c_law_tidy := ok_law_tidy (P := P) (w := w) (base := base) (k := 1) S_law_tidy m_sorted m_tuple (c_law_element.mono (k := 1) (by decide))
  have c_law_order := ok_law_order (P := P) (w := w) (base := base) (k := 2) S_law_order m_list m_range m_tuple (c_law_mixed.mono (k := 2) (by decide))
  have c_law_plus_powers := ok_law_plus_powers (P := P) (w := w) (base := base) (k := 0) S_law_plus_powers m_len m_range m_tuple
  have c_law_is_ahead := ok_law_is_ahead (P := P) (w := w) (base := base) (k := 0) S_law_is_ahead
  have c_law_some := ok_law_some (P := P) (w := w) (base := base) (k := 2) S_law_some m_list m_range m_tuple (c_law_any.mono (k := 2) (by decide)) (c_law_of.mono (k := 2) (by decide))
  have c_law_polynomial := ok_law_polynomial (P := P) (w := w) (base := base) (k := 3) S_law_polynomial (c_law_any.mono (k := 3) (by decide)) (c_law_some.mono (k := 3) (by decide)) (c_law_tidy.mono (k := 3) (by decide))
  have c_law_due_head := ok_law_due_head (P := P) (w := w) (base := base) (k := 1) S_law_due_head (c_law_is_ahead.mono (k := 1) (by decide))
  have c_law_near_orders := ok_law_near_orders (P := P) (w := w) (base := base) (k := 1) S_law_near_orders m_enumerate m_list m_str (c_law_any.mono (k := 1) (by decide))
  have c_theLaw := ok_theLaw (P := P) (w := w) (base := base) (k := 6) S_theLaw m_isinstance m_len m_range m_tuple (c_law_any.mono (k := 6) (by decide)) (c_law_draw.mono (k := 6) (by decide)) (c_law_due_head.mono (k := 6) (by decide)) (c_law_element.mono (k := 6) (by decide)) (c_law_is_ahead.mono (k := 6) (by decide)) (c_law_near_orders.mono (k := 6) (by decide)) (c_law_of.mono (k := 6) (by decide)) (c_law_order.mono (k := 6) (by decide)) (c_law_plus_powers.mono (k := 6) (by decide)) (c_law_polynomial.mono (k := 6) (by decide)) (c_law_same.mono (k := 6) (by decide)) (c_law_some.mono (k := 6) (by decide)) (c_along.mono (k := 6) (by decide)) (c_factor_of.mono (k := 6) (by decide)) (c_head.mono (k := 6) (by decide)) (c_is_ahead.mono (k := 6) (by decide)) (c_is_order.mono (k := 6) (by decide)) (c_times.mono (k := 6) (by decide))
  exact c_theLaw
end
end Pf
namespace Pf
open L2 PyProof.Rows PySem PySem.Spec
theorem Callee.at_ {P : Program} {w : World} {K : PySem.W.Frag} {mg : Str → Option Value} {base : Heap} {x : Str} {st : Stmt} {k : Nat} {ps : List Str} {G : EvF} {f : Addr} {fd : FuncData} {oc : Value} {od : Option Addr} {osl : Array (Option Value)} (c : Callee P w K mg base x st k ps G) (hf : mg x = some (.ref f)) (l : K.lookup f = some ⟨oc, od, .func fd, osl⟩) : FnOk P w K mg base CX0 k f fd ps (spOf K ps.length G) := by
  obtain ⟨f2, fd2, h1, h2, h3, _⟩ := c.ex
  rw [hf] at h3
  cases h3
  obtain ⟨_, _, _, _, _, _, _, _, _, _, l2, _⟩ := h1.ex
  rw [l] at l2
  cases l2
  exact h2
theorem all_mk {l : PySem.W.OpenLaw} {w : World} {K : PySem.W.Frag} {h : Heap} {mg : Str → Option Value} {fa : Addr} (X : K.In h) (G : h.Ns mainGlobals mg) (hfa : mg "law" = some (.ref fa))
    {f0 : Addr} {od0 an0 : Option Addr} {sl0 : Array (Option Value)} {oc0 kV0 dc0 pm0 cd0 ct0 : Value}
    (a0 : PySem.W.nsIn K mainGlobals "is_integer" = some (some (.ref f0))) (l0 : K.lookup f0 = some ⟨oc0, od0, .func (PySem.W.fnOf "is_integer" "is_integer" (defArgs s_is_integer) (defBody s_is_integer) (defScope s_is_integer) .none kV0 dc0 pm0 an0 cd0 ct0), sl0⟩) (c0 : PySem.W.codeIn K cd0 "is_integer" = true) (k0 : PySem.W.keepIn K (.ref f0) = true)
    {f1 : Addr} {od1 an1 : Option Addr} {sl1 : Array (Option Value)} {oc1 kV1 dc1 pm1 cd1 ct1 : Value}
    (a1 : PySem.W.nsIn K mainGlobals "is_number" = some (some (.ref f1))) (l1 : K.lookup f1 = some ⟨oc1, od1, .func (PySem.W.fnOf "is_number" "is_number" (defArgs s_is_number) (defBody s_is_number) (defScope s_is_number) .none kV1 dc1 pm1 an1 cd1 ct1), sl1⟩) (c1 : PySem.W.codeIn K cd1 "is_number" = true) (k1 : PySem.W.keepIn K (.ref f1) = true)
    {f2 : Addr} {od2 an2 : Option Addr} {sl2 : Array (Option Value)} {oc2 kV2 dc2 pm2 cd2 ct2 : Value}
    (a2 : PySem.W.nsIn K mainGlobals "is_index" = some (some (.ref f2))) (l2 : K.lookup f2 = some ⟨oc2, od2, .func (PySem.W.fnOf "is_index" "is_index" (defArgs s_is_index) (defBody s_is_index) (defScope s_is_index) .none kV2 dc2 pm2 an2 cd2 ct2), sl2⟩) (c2 : PySem.W.codeIn K cd2 "is_index" = true) (k2 : PySem.W.keepIn K (.ref f2) = true)
    {f3 : Addr} {od3 an3 : Option Addr} {sl3 : Array (Option Value)} {oc3 kV3 dc3 pm3 cd3 ct3 : Value}
    (a3 : PySem.W.nsIn K mainGlobals "is_order" = some (some (.ref f3))) (l3 : K.lookup f3 = some ⟨oc3, od3, .func (PySem.W.fnOf "is_order" "is_order" (defArgs s_is_order) (defBody s_is_order) (defScope s_is_order) .none kV3 dc3 pm3 an3 cd3 ct3), sl3⟩) (c3 : PySem.W.codeIn K cd3 "is_order" = true) (k3 : PySem.W.keepIn K (.ref f3) = true)
    {f4 : Addr} {od4 an4 : Option Addr} {sl4 : Array (Option Value)} {oc4 kV4 dc4 pm4 cd4 ct4 : Value}
    (a4 : PySem.W.nsIn K mainGlobals "rank" = some (some (.ref f4))) (l4 : K.lookup f4 = some ⟨oc4, od4, .func (PySem.W.fnOf "rank" "rank" (defArgs s_rank) (defBody s_rank) (defScope s_rank) .none kV4 dc4 pm4 an4 cd4 ct4), sl4⟩) (c4 : PySem.W.codeIn K cd4 "rank" = true) (k4 : PySem.W.keepIn K (.ref f4) = true)
    {f5 : Addr} {od5 an5 : Option Addr} {sl5 : Array (Option Value)} {oc5 kV5 dc5 pm5 cd5 ct5 : Value}
    (a5 : PySem.W.nsIn K mainGlobals "is_ahead" = some (some (.ref f5))) (l5 : K.lookup f5 = some ⟨oc5, od5, .func (PySem.W.fnOf "is_ahead" "is_ahead" (defArgs s_is_ahead) (defBody s_is_ahead) (defScope s_is_ahead) .none kV5 dc5 pm5 an5 cd5 ct5), sl5⟩) (c5 : PySem.W.codeIn K cd5 "is_ahead" = true) (k5 : PySem.W.keepIn K (.ref f5) = true)
    {f6 : Addr} {od6 an6 : Option Addr} {sl6 : Array (Option Value)} {oc6 kV6 dc6 pm6 cd6 ct6 : Value}
    (a6 : PySem.W.nsIn K mainGlobals "along" = some (some (.ref f6))) (l6 : K.lookup f6 = some ⟨oc6, od6, .func (PySem.W.fnOf "along" "along" (defArgs s_along) (defBody s_along) (defScope s_along) .none kV6 dc6 pm6 an6 cd6 ct6), sl6⟩) (c6 : PySem.W.codeIn K cd6 "along" = true) (k6 : PySem.W.keepIn K (.ref f6) = true)
    {f7 : Addr} {od7 an7 : Option Addr} {sl7 : Array (Option Value)} {oc7 kV7 dc7 pm7 cd7 ct7 : Value}
    (a7 : PySem.W.nsIn K mainGlobals "head" = some (some (.ref f7))) (l7 : K.lookup f7 = some ⟨oc7, od7, .func (PySem.W.fnOf "head" "head" (defArgs s_head) (defBody s_head) (defScope s_head) .none kV7 dc7 pm7 an7 cd7 ct7), sl7⟩) (c7 : PySem.W.codeIn K cd7 "head" = true) (k7 : PySem.W.keepIn K (.ref f7) = true)
    {f8 : Addr} {od8 an8 : Option Addr} {sl8 : Array (Option Value)} {oc8 kV8 dc8 pm8 cd8 ct8 : Value}
    (a8 : PySem.W.nsIn K mainGlobals "element" = some (some (.ref f8))) (l8 : K.lookup f8 = some ⟨oc8, od8, .func (PySem.W.fnOf "element" "element" (defArgs s_element) (defBody s_element) (defScope s_element) .none kV8 dc8 pm8 an8 cd8 ct8), sl8⟩) (c8 : PySem.W.codeIn K cd8 "element" = true) (k8 : PySem.W.keepIn K (.ref f8) = true)
    {f9 : Addr} {od9 an9 : Option Addr} {sl9 : Array (Option Value)} {oc9 kV9 dc9 pm9 cd9 ct9 : Value}
    (a9 : PySem.W.nsIn K mainGlobals "gathered" = some (some (.ref f9))) (l9 : K.lookup f9 = some ⟨oc9, od9, .func (PySem.W.fnOf "gathered" "gathered" (defArgs s_gathered) (defBody s_gathered) (defScope s_gathered) .none kV9 dc9 pm9 an9 cd9 ct9), sl9⟩) (c9 : PySem.W.codeIn K cd9 "gathered" = true) (k9 : PySem.W.keepIn K (.ref f9) = true)
    {f10 : Addr} {od10 an10 : Option Addr} {sl10 : Array (Option Value)} {oc10 kV10 dc10 pm10 cd10 ct10 : Value}
    (a10 : PySem.W.nsIn K mainGlobals "factor_of" = some (some (.ref f10))) (l10 : K.lookup f10 = some ⟨oc10, od10, .func (PySem.W.fnOf "factor_of" "factor_of" (defArgs s_factor_of) (defBody s_factor_of) (defScope s_factor_of) .none kV10 dc10 pm10 an10 cd10 ct10), sl10⟩) (c10 : PySem.W.codeIn K cd10 "factor_of" = true) (k10 : PySem.W.keepIn K (.ref f10) = true)
    {f11 : Addr} {od11 an11 : Option Addr} {sl11 : Array (Option Value)} {oc11 kV11 dc11 pm11 cd11 ct11 : Value}
    (a11 : PySem.W.nsIn K mainGlobals "times" = some (some (.ref f11))) (l11 : K.lookup f11 = some ⟨oc11, od11, .func (PySem.W.fnOf "times" "times" (defArgs s_times) (defBody s_times) (defScope s_times) .none kV11 dc11 pm11 an11 cd11 ct11), sl11⟩) (c11 : PySem.W.codeIn K cd11 "times" = true) (k11 : PySem.W.keepIn K (.ref f11) = true)
    {f12 : Addr} {od12 an12 : Option Addr} {sl12 : Array (Option Value)} {oc12 kV12 dc12 pm12 cd12 ct12 : Value}
    (a12 : PySem.W.nsIn K mainGlobals "_law_draw" = some (some (.ref f12))) (l12 : K.lookup f12 = some ⟨oc12, od12, .func (PySem.W.fnOf "_law_draw" "_law_draw" (defArgs s_law_draw) (defBody s_law_draw) (defScope s_law_draw) .none kV12 dc12 pm12 an12 cd12 ct12), sl12⟩) (c12 : PySem.W.codeIn K cd12 "_law_draw" = true) (k12 : PySem.W.keepIn K (.ref f12) = true)
    {f13 : Addr} {od13 an13 : Option Addr} {sl13 : Array (Option Value)} {oc13 kV13 dc13 pm13 cd13 ct13 : Value}
    (a13 : PySem.W.nsIn K mainGlobals "_law_any" = some (some (.ref f13))) (l13 : K.lookup f13 = some ⟨oc13, od13, .func (PySem.W.fnOf "_law_any" "_law_any" (defArgs s_law_any) (defBody s_law_any) (defScope s_law_any) .none kV13 dc13 pm13 an13 cd13 ct13), sl13⟩) (c13 : PySem.W.codeIn K cd13 "_law_any" = true) (k13 : PySem.W.keepIn K (.ref f13) = true)
    {f14 : Addr} {od14 an14 : Option Addr} {sl14 : Array (Option Value)} {oc14 kV14 dc14 pm14 cd14 ct14 : Value}
    (a14 : PySem.W.nsIn K mainGlobals "_law_of" = some (some (.ref f14))) (l14 : K.lookup f14 = some ⟨oc14, od14, .func (PySem.W.fnOf "_law_of" "_law_of" (defArgs s_law_of) (defBody s_law_of) (defScope s_law_of) .none kV14 dc14 pm14 an14 cd14 ct14), sl14⟩) (c14 : PySem.W.codeIn K cd14 "_law_of" = true) (k14 : PySem.W.keepIn K (.ref f14) = true)
    {f15 : Addr} {od15 an15 : Option Addr} {sl15 : Array (Option Value)} {oc15 kV15 dc15 pm15 cd15 ct15 : Value}
    (a15 : PySem.W.nsIn K mainGlobals "_law_mixed" = some (some (.ref f15))) (l15 : K.lookup f15 = some ⟨oc15, od15, .func (PySem.W.fnOf "_law_mixed" "_law_mixed" (defArgs s_law_mixed) (defBody s_law_mixed) (defScope s_law_mixed) .none kV15 dc15 pm15 an15 cd15 ct15), sl15⟩) (c15 : PySem.W.codeIn K cd15 "_law_mixed" = true) (k15 : PySem.W.keepIn K (.ref f15) = true)
    {f16 : Addr} {od16 an16 : Option Addr} {sl16 : Array (Option Value)} {oc16 kV16 dc16 pm16 cd16 ct16 : Value}
    (a16 : PySem.W.nsIn K mainGlobals "_law_same" = some (some (.ref f16))) (l16 : K.lookup f16 = some ⟨oc16, od16, .func (PySem.W.fnOf "_law_same" "_law_same" (defArgs s_law_same) (defBody s_law_same) (defScope s_law_same) .none kV16 dc16 pm16 an16 cd16 ct16), sl16⟩) (c16 : PySem.W.codeIn K cd16 "_law_same" = true) (k16 : PySem.W.keepIn K (.ref f16) = true)
    {f17 : Addr} {od17 an17 : Option Addr} {sl17 : Array (Option Value)} {oc17 kV17 dc17 pm17 cd17 ct17 : Value}
    (a17 : PySem.W.nsIn K mainGlobals "_law_element" = some (some (.ref f17))) (l17 : K.lookup f17 = some ⟨oc17, od17, .func (PySem.W.fnOf "_law_element" "_law_element" (defArgs s_law_element) (defBody s_law_element) (defScope s_law_element) .none kV17 dc17 pm17 an17 cd17 ct17), sl17⟩) (c17 : PySem.W.codeIn K cd17 "_law_element" = true) (k17 : PySem.W.keepIn K (.ref f17) = true)
    {f18 : Addr} {od18 an18 : Option Addr} {sl18 : Array (Option Value)} {oc18 kV18 dc18 pm18 cd18 ct18 : Value}
    (a18 : PySem.W.nsIn K mainGlobals "_law_tidy" = some (some (.ref f18))) (l18 : K.lookup f18 = some ⟨oc18, od18, .func (PySem.W.fnOf "_law_tidy" "_law_tidy" (defArgs s_law_tidy) (defBody s_law_tidy) (defScope s_law_tidy) .none kV18 dc18 pm18 an18 cd18 ct18), sl18⟩) (c18 : PySem.W.codeIn K cd18 "_law_tidy" = true) (k18 : PySem.W.keepIn K (.ref f18) = true)
    {f19 : Addr} {od19 an19 : Option Addr} {sl19 : Array (Option Value)} {oc19 kV19 dc19 pm19 cd19 ct19 : Value}
    (a19 : PySem.W.nsIn K mainGlobals "_law_order" = some (some (.ref f19))) (l19 : K.lookup f19 = some ⟨oc19, od19, .func (PySem.W.fnOf "_law_order" "_law_order" (defArgs s_law_order) (defBody s_law_order) (defScope s_law_order) .none kV19 dc19 pm19 an19 cd19 ct19), sl19⟩) (c19 : PySem.W.codeIn K cd19 "_law_order" = true) (k19 : PySem.W.keepIn K (.ref f19) = true)
    {f20 : Addr} {od20 an20 : Option Addr} {sl20 : Array (Option Value)} {oc20 kV20 dc20 pm20 cd20 ct20 : Value}
    (a20 : PySem.W.nsIn K mainGlobals "_law_plus_powers" = some (some (.ref f20))) (l20 : K.lookup f20 = some ⟨oc20, od20, .func (PySem.W.fnOf "_law_plus_powers" "_law_plus_powers" (defArgs s_law_plus_powers) (defBody s_law_plus_powers) (defScope s_law_plus_powers) .none kV20 dc20 pm20 an20 cd20 ct20), sl20⟩) (c20 : PySem.W.codeIn K cd20 "_law_plus_powers" = true) (k20 : PySem.W.keepIn K (.ref f20) = true)
    {f21 : Addr} {od21 an21 : Option Addr} {sl21 : Array (Option Value)} {oc21 kV21 dc21 pm21 cd21 ct21 : Value}
    (a21 : PySem.W.nsIn K mainGlobals "_law_is_ahead" = some (some (.ref f21))) (l21 : K.lookup f21 = some ⟨oc21, od21, .func (PySem.W.fnOf "_law_is_ahead" "_law_is_ahead" (defArgs s_law_is_ahead) (defBody s_law_is_ahead) (defScope s_law_is_ahead) .none kV21 dc21 pm21 an21 cd21 ct21), sl21⟩) (c21 : PySem.W.codeIn K cd21 "_law_is_ahead" = true) (k21 : PySem.W.keepIn K (.ref f21) = true)
    {f22 : Addr} {od22 an22 : Option Addr} {sl22 : Array (Option Value)} {oc22 kV22 dc22 pm22 cd22 ct22 : Value}
    (a22 : PySem.W.nsIn K mainGlobals "_law_some" = some (some (.ref f22))) (l22 : K.lookup f22 = some ⟨oc22, od22, .func (PySem.W.fnOf "_law_some" "_law_some" (defArgs s_law_some) (defBody s_law_some) (defScope s_law_some) .none kV22 dc22 pm22 an22 cd22 ct22), sl22⟩) (c22 : PySem.W.codeIn K cd22 "_law_some" = true) (k22 : PySem.W.keepIn K (.ref f22) = true)
    {f23 : Addr} {od23 an23 : Option Addr} {sl23 : Array (Option Value)} {oc23 kV23 dc23 pm23 cd23 ct23 : Value}
    (a23 : PySem.W.nsIn K mainGlobals "_law_polynomial" = some (some (.ref f23))) (l23 : K.lookup f23 = some ⟨oc23, od23, .func (PySem.W.fnOf "_law_polynomial" "_law_polynomial" (defArgs s_law_polynomial) (defBody s_law_polynomial) (defScope s_law_polynomial) .none kV23 dc23 pm23 an23 cd23 ct23), sl23⟩) (c23 : PySem.W.codeIn K cd23 "_law_polynomial" = true) (k23 : PySem.W.keepIn K (.ref f23) = true)
    {f24 : Addr} {od24 an24 : Option Addr} {sl24 : Array (Option Value)} {oc24 kV24 dc24 pm24 cd24 ct24 : Value}
    (a24 : PySem.W.nsIn K mainGlobals "_law_due_head" = some (some (.ref f24))) (l24 : K.lookup f24 = some ⟨oc24, od24, .func (PySem.W.fnOf "_law_due_head" "_law_due_head" (defArgs s_law_due_head) (defBody s_law_due_head) (defScope s_law_due_head) .none kV24 dc24 pm24 an24 cd24 ct24), sl24⟩) (c24 : PySem.W.codeIn K cd24 "_law_due_head" = true) (k24 : PySem.W.keepIn K (.ref f24) = true)
    {f25 : Addr} {od25 an25 : Option Addr} {sl25 : Array (Option Value)} {oc25 kV25 dc25 pm25 cd25 ct25 : Value}
    (a25 : PySem.W.nsIn K mainGlobals "_law_near_orders" = some (some (.ref f25))) (l25 : K.lookup f25 = some ⟨oc25, od25, .func (PySem.W.fnOf "_law_near_orders" "_law_near_orders" (defArgs s_law_near_orders) (defBody s_law_near_orders) (defScope s_law_near_orders) .none kV25 dc25 pm25 an25 cd25 ct25), sl25⟩) (c25 : PySem.W.codeIn K cd25 "_law_near_orders" = true) (k25 : PySem.W.keepIn K (.ref f25) = true)
    {f26 : Addr} {od26 an26 : Option Addr} {sl26 : Array (Option Value)} {oc26 kV26 dc26 pm26 cd26 ct26 : Value}
    (a26 : PySem.W.nsIn K mainGlobals "law" = some (some (.ref f26))) (l26 : K.lookup f26 = some ⟨oc26, od26, .func (PySem.W.fnOf "law" "law" (defArgs s_theLaw) (defBody s_theLaw) (defScope s_theLaw) .none kV26 dc26 pm26 an26 cd26 ct26), sl26⟩) (c26 : PySem.W.codeIn K cd26 "law" = true) (k26 : PySem.W.keepIn K (.ref f26) = true)
    (z_abs : PySem.W.nsIn K mainGlobals "abs" = some none)
    (z_all : PySem.W.nsIn K mainGlobals "all" = some none)
    (z_bool : PySem.W.nsIn K mainGlobals "bool" = some none)
    (z_enumerate : PySem.W.nsIn K mainGlobals "enumerate" = some none)
    (z_int : PySem.W.nsIn K mainGlobals "int" = some none)
    (z_isinstance : PySem.W.nsIn K mainGlobals "isinstance" = some none)
    (z_len : PySem.W.nsIn K mainGlobals "len" = some none)
    (z_list : PySem.W.nsIn K mainGlobals "list" = some none)
    (z_range : PySem.W.nsIn K mainGlobals "range" = some none)
    (z_sorted : PySem.W.nsIn K mainGlobals "sorted" = some none)
    (z_str : PySem.W.nsIn K mainGlobals "str" = some none)
    (z_tuple : PySem.W.nsIn K mainGlobals "tuple" = some none)
    (z_zip : PySem.W.nsIn K mainGlobals "zip" = some none) :
    ∃ fd : FuncData, (∀ (s : Shared) (v : Value), BindsTo s fd ⟨[v], []⟩ [("script", v)]) ∧ ∀ base : Heap, K.In base → base.Ns mainGlobals mg → FnOk l.prog w K mg base CX0 7 fa fd ["script"] (spOf K 1 ev_theLaw) := by
  have e := hfa.symm.trans (PySem.W.mg_of X G a26)
  cases e
  have S0 : Stands K mg "is_integer" s_is_integer ["value"] := stands_mk X G a0 l0 c0 k0 fun _ _ _ _ _ _ us hl => match us, hl with | [_], _ => rfl
  have S1 : Stands K mg "is_number" s_is_number ["value"] := stands_mk X G a1 l1 c1 k1 fun _ _ _ _ _ _ us hl => match us, hl with | [_], _ => rfl
  have S2 : Stands K mg "is_index" s_is_index ["value", "many"] := stands_mk X G a2 l2 c2 k2 fun _ _ _ _ _ _ us hl => match us, hl with | [_, _], _ => rfl
  have S3 : Stands K mg "is_order" s_is_order ["n", "value"] := stands_mk X G a3 l3 c3 k3 fun _ _ _ _ _ _ us hl => match us, hl with | [_, _], _ => rfl
  have S4 : Stands K mg "rank" s_rank ["order", "powers"] := stands_mk X G a4 l4 c4 k4 fun _ _ _ _ _ _ us hl => match us, hl with | [_, _], _ => rfl
  have S5 : Stands K mg "is_ahead" s_is_ahead ["order", "one", "other"] := stands_mk X G a5 l5 c5 k5 fun _ _ _ _ _ _ us hl => match us, hl with | [_, _, _], _ => rfl
  have S6 : Stands K mg "along" s_along ["order", "some"] := stands_mk X G a6 l6 c6 k6 fun _ _ _ _ _ _ us hl => match us, hl with | [_, _], _ => rfl
  have S7 : Stands K mg "head" s_head ["polynomial", "order"] := stands_mk X G a7 l7 c7 k7 fun _ _ _ _ _ _ us hl => match us, hl with | [_, _], _ => rfl
  have S8 : Stands K mg "element" s_element ["p", "number"] := stands_mk X G a8 l8 c8 k8 fun _ _ _ _ _ _ us hl => match us, hl with | [_, _], _ => rfl
  have S9 : Stands K mg "gathered" s_gathered ["p", "found"] := stands_mk X G a9 l9 c9 k9 fun _ _ _ _ _ _ us hl => match us, hl with | [_, _], _ => rfl
  have S10 : Stands K mg "factor_of" s_factor_of ["polynomial", "powers"] := stands_mk X G a10 l10 c10 k10 fun _ _ _ _ _ _ us hl => match us, hl with | [_, _], _ => rfl
  have S11 : Stands K mg "times" s_times ["p", "one", "other"] := stands_mk X G a11 l11 c11 k11 fun _ _ _ _ _ _ us hl => match us, hl with | [_, _, _], _ => rfl
  have S12 : Stands K mg "_law_draw" s_law_draw ["script", "salt"] := stands_mk X G a12 l12 c12 k12 fun _ _ _ _ _ _ us hl => match us, hl with | [_, _], _ => rfl
  have S13 : Stands K mg "_law_any" s_law_any ["deal", "bound"] := stands_mk X G a13 l13 c13 k13 fun _ _ _ _ _ _ us hl => match us, hl with | [_, _], _ => rfl
  have S14 : Stands K mg "_law_of" s_law_of ["deal", "some"] := stands_mk X G a14 l14 c14 k14 fun _ _ _ _ _ _ us hl => match us, hl with | [_, _], _ => rfl
  have S15 : Stands K mg "_law_mixed" s_law_mixed ["deal", "some"] := stands_mk X G a15 l15 c15 k15 fun _ _ _ _ _ _ us hl => match us, hl with | [_, _], _ => rfl
  have S16 : Stands K mg "_law_same" s_law_same ["told", "due"] := stands_mk X G a16 l16 c16 k16 fun _ _ _ _ _ _ us hl => match us, hl with | [_, _], _ => rfl
  have S17 : Stands K mg "_law_element" s_law_element ["p", "number"] := stands_mk X G a17 l17 c17 k17 fun _ _ _ _ _ _ us hl => match us, hl with | [_, _], _ => rfl
  have S18 : Stands K mg "_law_tidy" s_law_tidy ["p", "found"] := stands_mk X G a18 l18 c18 k18 fun _ _ _ _ _ _ us hl => match us, hl with | [_, _], _ => rfl
  have S19 : Stands K mg "_law_order" s_law_order ["deal", "n"] := stands_mk X G a19 l19 c19 k19 fun _ _ _ _ _ _ us hl => match us, hl with | [_, _], _ => rfl
  have S20 : Stands K mg "_law_plus_powers" s_law_plus_powers ["powers", "more"] := stands_mk X G a20 l20 c20 k20 fun _ _ _ _ _ _ us hl => match us, hl with | [_, _], _ => rfl
  have S21 : Stands K mg "_law_is_ahead" s_law_is_ahead ["order", "one", "other"] := stands_mk X G a21 l21 c21 k21 fun _ _ _ _ _ _ us hl => match us, hl with | [_, _, _], _ => rfl
  have S22 : Stands K mg "_law_some" s_law_some ["deal", "n", "many", "bound"] := stands_mk X G a22 l22 c22 k22 fun _ _ _ _ _ _ us hl => match us, hl with | [_, _, _, _], _ => rfl
  have S23 : Stands K mg "_law_polynomial" s_law_polynomial ["deal", "p", "n", "many", "bound"] := stands_mk X G a23 l23 c23 k23 fun _ _ _ _ _ _ us hl => match us, hl with | [_, _, _, _, _], _ => rfl
  have S24 : Stands K mg "_law_due_head" s_law_due_head ["polynomial", "order"] := stands_mk X G a24 l24 c24 k24 fun _ _ _ _ _ _ us hl => match us, hl with | [_, _], _ => rfl
  have S25 : Stands K mg "_law_near_orders" s_law_near_orders ["deal", "n", "order"] := stands_mk X G a25 l25 c25 k25 fun _ _ _ _ _ _ us hl => match us, hl with | [_, _, _], _ => rfl
  have S26 : Stands K mg "law" s_theLaw ["script"] := stands_mk X G a26 l26 c26 k26 fun _ _ _ _ _ _ us hl => match us, hl with | [_], _ => rfl
  refine ⟨PySem.W.fnOf "law" "law" (defArgs s_theLaw) (defBody s_theLaw) (defScope s_theLaw) .none kV26 dc26 pm26 an26 cd26 ct26, fun s v => .of_eq rfl, fun base _ _ => ?_⟩
  exact (all_ok (PySem.W.mg_none_of X G z_abs) (PySem.W.mg_none_of X G z_all) (PySem.W.mg_none_of X G z_bool) (PySem.W.mg_none_of X G z_enumerate) (PySem.W.mg_none_of X G z_int) (PySem.W.mg_none_of X G z_isinstance) (PySem.W.mg_none_of X G z_len) (PySem.W.mg_none_of X G z_list) (PySem.W.mg_none_of X G z_range) (PySem.W.mg_none_of X G z_sorted) (PySem.W.mg_none_of X G z_str) (PySem.W.mg_none_of X G z_tuple) (PySem.W.mg_none_of X G z_zip) S0 S1 S2 S3 S4 S5 S6 S7 S8 S9 S10 S11 S12 S13 S14 S15 S16 S17 S18 S19 S20 S21 S22 S23 S24 S25 S26).at_ hfa l26
theorem sp_start {K : PySem.W.Frag} {H : Hp} {a : Addr} {ns : List Int} (hS : SqL K H a (ns.map V.int)) (h : ∃ outs, ev_theLaw [.val (.list (ns.map .int))] = some (.val (.bool true), outs)) : spOf K 1 ev_theLaw [.ref a] H (fun v _ => v = .bl true) fun _ _ _ => False := by
  obtain ⟨outs, h⟩ := h
  refine ⟨rfl, H, _, [], _, outs, ⟨Same.refl _, .cons (f := []) (.val (.lst hS (RelAll.of_ints ns))) .nil, List.nodup_nil, by simp, fun _ _ e => e⟩, h, fun F' H' fp' v st t => ?_⟩
  obtain ⟨_, rel, _, _, _⟩ := t
  cases rel with
  | cons h r =>
    cases h with
    | val h => cases h; rfl
end Pf
open PySem PySem.W PyProof.Rows
set_option maxHeartbeats 0 in
theorem PySem.Challenge.cw_morelistpicks_k04_whole_heads_along_orde_holds : PySem.Challenge.rw_morelistpicks_k04_whole_heads_along_orde.Holds := by
  w_on; o_law; k_head; (case hw => w_witness2)
  k_fill
  refine L2.walk_of (l := PySem.Challenge.rw_morelistpicks_k04_whole_heads_along_orde) (n := 63) (k := 7) (x := "script") (CX := fun _ => L2.CX0) (sp := fun w => Pf.spOf _ 1 Pf.ev_theLaw) rfl (by decide) rfl ⟨rfl, by decide, by decide⟩ (fun w h Y => PySem.W.kIn_of Y) ?F (fun _ _ a ns hl _ hS => Pf.sp_start hS (Pf.law_true ns hl)) (fun _ _ _ _ _ h => h)
  case F =>
    intro w mg fa h KX G hmg
    refine' Pf.all_mk KX G hmg ?a0 ?l0 ?c0 ?k0 ?a1 ?l1 ?c1 ?k1 ?a2 ?l2 ?c2 ?k2 ?a3 ?l3 ?c3 ?k3 ?a4 ?l4 ?c4 ?k4 ?a5 ?l5 ?c5 ?k5 ?a6 ?l6 ?c6 ?k6 ?a7 ?l7 ?c7 ?k7 ?a8 ?l8 ?c8 ?k8 ?a9 ?l9 ?c9 ?k9 ?a10 ?l10 ?c10 ?k10 ?a11 ?l11 ?c11 ?k11 ?a12 ?l12 ?c12 ?k12 ?a13 ?l13 ?c13 ?k13 ?a14 ?l14 ?c14 ?k14 ?a15 ?l15 ?c15 ?k15 ?a16 ?l16 ?c16 ?k16 ?a17 ?l17 ?c17 ?k17 ?a18 ?l18 ?c18 ?k18 ?a19 ?l19 ?c19 ?k19 ?a20 ?l20 ?c20 ?k20 ?a21 ?l21 ?c21 ?k21 ?a22 ?l22 ?c22 ?k22 ?a23 ?l23 ?c23 ?k23 ?a24 ?l24 ?c24 ?k24 ?a25 ?l25 ?c25 ?k25 ?a26 ?l26 ?c26 ?k26 ?z_abs ?z_all ?z_bool ?z_enumerate ?z_int ?z_isinstance ?z_len ?z_list ?z_range ?z_sorted ?z_str ?z_tuple ?z_zip
    (case a0 => k_is); (case l0 => k_is); (case c0 => k_is); (case k0 => k_is); (case a1 => k_is); (case l1 => k_is); (case c1 => k_is); (case k1 => k_is); (case a2 => k_is); (case l2 => k_is); (case c2 => k_is); (case k2 => k_is); (case a3 => k_is); (case l3 => k_is); (case c3 => k_is); (case k3 => k_is); (case a4 => k_is); (case l4 => k_is); (case c4 => k_is); (case k4 => k_is); (case a5 => k_is); (case l5 => k_is); (case c5 => k_is); (case k5 => k_is); (case a6 => k_is); (case l6 => k_is); (case c6 => k_is); (case k6 => k_is); (case a7 => k_is); (case l7 => k_is); (case c7 => k_is); (case k7 => k_is); (case a8 => k_is); (case l8 => k_is); (case c8 => k_is); (case k8 => k_is); (case a9 => k_is); (case l9 => k_is); (case c9 => k_is); (case k9 => k_is); (case a10 => k_is); (case l10 => k_is); (case c10 => k_is); (case k10 => k_is); (case a11 => k_is); (case l11 => k_is); (case c11 => k_is); (case k11 => k_is); (case a12 => k_is); (case l12 => k_is); (case c12 => k_is); (case k12 => k_is); (case a13 => k_is); (case l13 => k_is); (case c13 => k_is); (case k13 => k_is); (case a14 => k_is); (case l14 => k_is); (case c14 => k_is); (case k14 => k_is); (case a15 => k_is); (case l15 => k_is); (case c15 => k_is); (case k15 => k_is); (case a16 => k_is); (case l16 => k_is); (case c16 => k_is); (case k16 => k_is); (case a17 => k_is); (case l17 => k_is); (case c17 => k_is); (case k17 => k_is); (case a18 => k_is); (case l18 => k_is); (case c18 => k_is); (case k18 => k_is); (case a19 => k_is); (case l19 => k_is); (case c19 => k_is); (case k19 => k_is); (case a20 => k_is); (case l20 => k_is); (case c20 => k_is); (case k20 => k_is); (case a21 => k_is); (case l21 => k_is); (case c21 => k_is); (case k21 => k_is); (case a22 => k_is); (case l22 => k_is); (case c22 => k_is); (case k22 => k_is); (case a23 => k_is); (case l23 => k_is); (case c23 => k_is); (case k23 => k_is); (case a24 => k_is); (case l24 => k_is); (case c24 => k_is); (case k24 => k_is); (case a25 => k_is); (case l25 => k_is); (case c25 => k_is); (case k25 => k_is); (case a26 => k_is); (case l26 => k_is); (case c26 => k_is); (case k26 => k_is); (case z_abs => k_is); (case z_all => k_is); (case z_bool => k_is); (case z_enumerate => k_is); (case z_int => k_is); (case z_isinstance => k_is); (case z_len => k_is); (case z_list => k_is); (case z_range => k_is); (case z_sorted => k_is); (case z_str => k_is); (case z_tuple => k_is); (case z_zip => k_is)
