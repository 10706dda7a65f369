import PyProof.Rows.All
import Wide.All
import OpenK.AllK
import Wide.FinOn
import HandS.ForMost
import HandS.ForExc
import HandS.IsInst
import HandS.TupAny
import HandS.Wide
import HandS.TupMul
import HandS.TryMany
import HandS.Zip
import HandS.Style
import PyProof.StrOps2
import KE.KIntText
import PySem.Challenge.RW_guessedworlds_k01_small_integers_and_see
set_option Elab.async false
set_option linter.all false
set_option maxRecDepth 100000
set_option maxHeartbeats 4000000
/-! data by value: tuples are plain data, lists and instances stand in a store -/
namespace VD
open PySem PySem.Spec PyProof.Rows L2

inductive Dv where
  | non | bl (b : Bool) | int (i : Int) | str (x : Str) | ty (n : String) | ref (a : Addr) | tup (ds : List Dv) | rol (ds : List Dv)
instance : Inhabited Dv := ⟨.non⟩

/-- what stands at a stored address -/
inductive MO where
  | lst (ds : List Dv) | dK (kvs : List (Key × Dv)) | ins (C dx : Addr) (fs : List (Str × Dv)) | xd (fs : List (Str × Dv))
abbrev Sto := Addr → Option MO
abbrev Rho := List (Option Dv)
def put (S : Sto) (a : Addr) (m : MO) : Sto := fun b => if b = a then some m else S b
theorem put_same {S : Sto} {a : Addr} {m : MO} : put S a m a = some m := by unfold put; rw [if_pos rfl]
theorem put_ne {S : Sto} {a b : Addr} {m : MO} (h : b ≠ a) : put S a m b = S b := by unfold put; rw [if_neg h]
theorem put_put {S : Sto} {a : Addr} {m n : MO} : put (put S a m) a n = put S a n := by
  funext b; unfold put; split <;> rfl
theorem put_comm {S : Sto} {a b : Addr} {m n : MO} (h : a ≠ b) : put (put S a m) b n = put (put S b n) a m := by
  funext c; unfold put; by_cases h1 : c = b <;> by_cases h2 : c = a <;> simp [h1, h2] <;> simp_all
theorem put_self {S : Sto} {a : Addr} {m : MO} (h : S a = some m) : put S a m = S := by
  funext b; unfold put; split
  · rename_i e; rw [e, h]
  · rfl
theorem ne_of {S : Sto} {a b : Addr} {m : MO} (h : S a = some m) (h' : S b = none) : a ≠ b := by
  intro e; rw [e, h'] at h; cases h
theorem ne_of' {S : Sto} {a b : Addr} {m : MO} (h : S a = some m) (h' : S b = none) : b ≠ a := (ne_of h h').symm
/-- less is known -/
def Sub (S T : Sto) : Prop := ∀ a m, S a = some m → T a = some m
theorem Sub.refl (S : Sto) : Sub S S := fun _ _ h => h
theorem Sub.trans {S T U : Sto} (h : Sub S T) (g : Sub T U) : Sub S U := fun a m e => g a m (h a m e)
theorem Sub.new {S : Sto} {a : Addr} {m : MO} (h : S a = none) : Sub S (put S a m) := fun b n e => by
  rw [put_ne (ne_of e h)]; exact e
theorem Sub.put {S T : Sto} {a : Addr} {m : MO} (h : Sub S T) : Sub (put S a m) (put T a m) := fun b n e => by
  unfold VD.put at e ⊢
  split
  · rename_i q; rw [if_pos q] at e; exact e
  · rename_i q; rw [if_neg q] at e; exact h _ _ e

/-- a list that is never written: the script, or one of the written part -/
def CL (K : PySem.W.Frag) (H : Hp) (a : Addr) (xs : List V) : Prop :=
  (∃ o, H a = some (.frz o (.lst xs))) ∨
    ∃ (o : Obj) (its : Array Value) (n : Nat), K.lookup a = some o ∧ o.cls = .type "list" ∧ o.dict = none ∧ o.data = .seq its n ∧ its.size ≤ sizeLine ∧ Vals xs its.toList
theorem CL.sq {K : PySem.W.Frag} {H : Hp} {a : Addr} {xs : List V} (h : CL K H a xs) : SqL K H a xs := by
  rcases h with h | h
  · exact .inl (.inr h)
  · exact .inr h
section
variable (K : PySem.W.Frag) (H : Hp)
mutual
inductive Rep : V → Dv → Prop
  | non : Rep .non .non
  | bl (b : Bool) : Rep (.bl b) (.bl b)
  | int (i : Int) : Rep (.int i) (.int i)
  | str (x : Str) : Rep (.str x) (.str x)
  | ty (n : String) : Rep (.ty n) (.ty n)
  | ref (a : Addr) : Rep (.ref a) (.ref a)
  | tup {a : Addr} {xs : List V} {ds : List Dv} : SqT K H a xs → RepL xs ds → Rep (.ref a) (.tup ds)
  | rol {a : Addr} {xs : List V} {ds : List Dv} : CL K H a xs → RepL xs ds → Rep (.ref a) (.rol ds)
inductive RepL : List V → List Dv → Prop
  | nil : RepL [] []
  | cons {v : V} {vs : List V} {d : Dv} {ds : List Dv} : Rep v d → RepL vs ds → RepL (v :: vs) (d :: ds)
end
end
section
variable {K : PySem.W.Frag} {H H' H1 H2 : Hp}
/-- tuples stay -/
structure Tk (K : PySem.W.Frag) (H H' : Hp) : Prop where
  t : ∀ a xs, SqT K H a xs → SqT K H' a xs
  c : ∀ a xs, CL K H a xs → CL K H' a xs
theorem Tk.refl (H : Hp) : Tk K H H := ⟨fun _ _ h => h, fun _ _ h => h⟩
theorem Tk.trans (h : Tk K H H1) (g : Tk K H1 H2) : Tk K H H2 := ⟨fun a xs e => g.t a xs (h.t a xs e), fun a xs e => g.c a xs (h.c a xs e)⟩
theorem Tk.of (h : ∀ a o, H a = some o → (∀ xs, o ≠ .tup xs) ∧ (∀ ob u, o ≠ .frz ob u) ∨ H' a = some o) : Tk K H H' := ⟨fun a xs e => by
  rcases e with (e | ⟨o, e⟩) | e
  · rcases h _ _ e with ⟨q, _⟩ | q
    · exact absurd rfl (q xs)
    · exact .inl (.inl q)
  · rcases h _ _ e with ⟨_, q⟩ | q
    · exact absurd rfl (q _ _)
    · exact .inl (.inr ⟨o, q⟩)
  · exact .inr e, fun a xs e => by
  rcases e with ⟨o, e⟩ | e
  · rcases h _ _ e with ⟨_, q⟩ | q
    · exact absurd rfl (q _ _)
    · exact .inl ⟨o, q⟩
  · exact .inr e⟩
theorem Tk.new {p : Addr} {o : HO} (h : H p = none) : Tk K H (upd H p o) := Tk.of fun a u e => .inr (by rw [upd_ne (ne_of_none e h)]; exact e)
theorem Tk.same (h : Same H H') : Tk K H H' := Tk.of fun a u e => .inr (h a u e)
theorem Tk.write {p : Addr} {o u : HO} (h : H p = some u) (q : (∀ xs, u ≠ .tup xs) ∧ (∀ ob z, u ≠ .frz ob z)) : Tk K H (upd H p o) := Tk.of fun a x e => by
  by_cases z : a = p
  · subst z; rw [h] at e; cases e; exact .inl q
  · exact .inr (by rw [upd_ne z]; exact e)
mutual
theorem Rep.mono (t : Tk K H H') : ∀ {v : V} {d : Dv}, Rep K H v d → Rep K H' v d
  | _, _, .non => .non
  | _, _, .bl b => .bl b
  | _, _, .int b => .int b
  | _, _, .str b => .str b
  | _, _, .ty b => .ty b
  | _, _, .ref b => .ref b
  | _, _, .tup h l => .tup (t.t _ _ h) (RepL.mono t l)
  | _, _, .rol h l => .rol (t.c _ _ h) (RepL.mono t l)
theorem RepL.mono (t : Tk K H H') : ∀ {vs : List V} {ds : List Dv}, RepL K H vs ds → RepL K H' vs ds
  | _, _, .nil => .nil
  | _, _, .cons h l => .cons (Rep.mono t h) (RepL.mono t l)
end
theorem RepL.length : ∀ {vs : List V} {ds : List Dv}, RepL K H vs ds → vs.length = ds.length
  | _, _, .nil => rfl
  | _, _, .cons _ l => congrArg (· + 1) (RepL.length l)
theorem RepL.get : ∀ {vs : List V} {ds : List Dv} {i : Nat} {d : Dv}, RepL K H vs ds → ds[i]? = some d → ∃ v, vs[i]? = some v ∧ Rep K H v d
  | _, _, _, _, .nil, e => by simp at e
  | _, _, 0, _, .cons h _, e => by simp at e; subst e; exact ⟨_, rfl, h⟩
  | _, _, i + 1, d, .cons _ l, e => by
    obtain ⟨v, h1, h2⟩ := RepL.get (i := i) (d := d) l (by simpa using e)
    exact ⟨v, by simpa using h1, h2⟩
theorem RepL.get' : ∀ {vs : List V} {ds : List Dv} {i : Nat} {v : V}, RepL K H vs ds → vs[i]? = some v → ∃ d, ds[i]? = some d ∧ Rep K H v d
  | _, _, _, _, .nil, e => by simp at e
  | _, _, 0, _, .cons h _, e => by simp at e; subst e; exact ⟨_, rfl, h⟩
  | _, _, i + 1, d, .cons _ l, e => by
    obtain ⟨v, h1, h2⟩ := RepL.get' (i := i) (v := d) l (by simpa using e)
    exact ⟨v, by simpa using h1, h2⟩
theorem RepL.append : ∀ {vs : List V} {ds : List Dv} {us : List V} {es : List Dv}, RepL K H vs ds → RepL K H us es → RepL K H (vs ++ us) (ds ++ es)
  | _, _, _, _, .nil, q => q
  | _, _, _, _, .cons h l, q => .cons h (RepL.append l q)
theorem RepL.take : ∀ {vs : List V} {ds : List Dv} (n : Nat), RepL K H vs ds → RepL K H (vs.take n) (ds.take n)
  | _, _, 0, _ => .nil
  | _, _, _ + 1, .nil => .nil
  | _, _, n + 1, .cons h l => .cons h (RepL.take n l)
theorem RepL.drop : ∀ {vs : List V} {ds : List Dv} (n : Nat), RepL K H vs ds → RepL K H (vs.drop n) (ds.drop n)
  | _, _, 0, q => q
  | _, _, _ + 1, .nil => .nil
  | _, _, n + 1, .cons _ l => RepL.drop n l
theorem RepL.set : ∀ {vs : List V} {ds : List Dv} {v : V} {d : Dv} (n : Nat), RepL K H vs ds → Rep K H v d → RepL K H (vs.set n v) (ds.set n d)
  | _, _, _, _, _, .nil, _ => .nil
  | _, _, _, _, 0, .cons _ l, q => .cons q l
  | _, _, _, _, n + 1, .cons h l, q => .cons h (RepL.set n l q)
theorem RepL.rep {vs : List V} {ds : List Dv} (h : RepL K H vs ds) : ∀ k : Nat, RepL K H (List.replicate k vs).flatten (List.replicate k ds).flatten
  | 0 => .nil
  | k + 1 => by
    rw [List.replicate_succ, List.replicate_succ, List.flatten_cons, List.flatten_cons]
    exact h.append (RepL.rep h k)
theorem RepL.nil_iff {vs : List V} {ds : List Dv} (h : RepL K H vs ds) : vs = [] ↔ ds = [] := by
  cases h <;> simp
theorem RepL.erase : ∀ {vs : List V} {ds : List Dv} (n : Nat), RepL K H vs ds → RepL K H (vs.eraseIdx n) (ds.eraseIdx n)
  | _, _, _, .nil => .nil
  | _, _, 0, .cons _ l => l
  | _, _, n + 1, .cons h l => .cons h (RepL.erase n l)

/-! inversions -/
theorem Rep.i_non {v : V} (h : Rep K H v .non) : v = .non := by cases h; rfl
theorem Rep.i_bl {v : V} {b : Bool} (h : Rep K H v (.bl b)) : v = .bl b := by cases h; rfl
theorem Rep.i_int {v : V} {b : Int} (h : Rep K H v (.int b)) : v = .int b := by cases h; rfl
theorem Rep.i_str {v : V} {b : Str} (h : Rep K H v (.str b)) : v = .str b := by cases h; rfl
theorem Rep.i_ty {v : V} {b : String} (h : Rep K H v (.ty b)) : v = .ty b := by cases h; rfl
theorem Rep.i_ref {v : V} {b : Addr} (h : Rep K H v (.ref b)) : v = .ref b := by cases h; rfl
theorem Rep.i_tup {v : V} {ds : List Dv} (h : Rep K H v (.tup ds)) : ∃ a xs, v = .ref a ∧ SqT K H a xs ∧ RepL K H xs ds := by
  cases h with | tup h l => exact ⟨_, _, rfl, h, l⟩
theorem Rep.i_rol {v : V} {ds : List Dv} (h : Rep K H v (.rol ds)) : ∃ a xs, v = .ref a ∧ CL K H a xs ∧ RepL K H xs ds := by
  cases h with | rol h l => exact ⟨_, _, rfl, h, l⟩
theorem RepL.ints : ∀ {vs : List V} {ns : List Int}, RepL K H vs (ns.map Dv.int) → vs = ns.map V.int
  | _, [], .nil => rfl
  | _, _ :: _, .cons h l => by rw [h.i_int, RepL.ints l]; rfl
theorem RepL.bls : ∀ {vs : List V} {ns : List Bool}, RepL K H vs (ns.map Dv.bl) → vs = ns.map V.bl
  | _, [], .nil => rfl
  | _, _ :: _, .cons h l => by rw [h.i_bl, RepL.bls l]; rfl
theorem RepL.strs : ∀ {vs : List V} {ns : List Str}, RepL K H vs (ns.map Dv.str) → vs = ns.map V.str
  | _, [], .nil => rfl
  | _, _ :: _, .cons h l => by rw [h.i_str, RepL.strs l]; rfl
theorem RepL.of_ints : ∀ (ns : List Int), RepL K H (ns.map V.int) (ns.map Dv.int)
  | [] => .nil
  | i :: r => .cons (.int i) (RepL.of_ints r)
theorem RepL.of_bls : ∀ (ns : List Bool), RepL K H (ns.map V.bl) (ns.map Dv.bl)
  | [] => .nil
  | i :: r => .cons (.bl i) (RepL.of_bls r)
theorem RepL.of_strs : ∀ (ns : List Str), RepL K H (ns.map V.str) (ns.map Dv.str)
  | [] => .nil
  | i :: r => .cons (.str i) (RepL.of_strs r)
theorem RepL.cons_i {vs : List V} {d : Dv} {ds : List Dv} (h : RepL K H vs (d :: ds)) : ∃ v r, vs = v :: r ∧ Rep K H v d ∧ RepL K H r ds := by
  cases h with | cons h l => exact ⟨_, _, rfl, h, l⟩
theorem RepL.nil_i {vs : List V} (h : RepL K H vs []) : vs = [] := by cases h; rfl

/-! the store -/
def RepF (K : PySem.W.Frag) (H : Hp) : List (Str × V) → List (Str × Dv) → Prop := Paired fun p q => p.1 = q.1 ∧ Rep K H p.2 q.2
def RepK (K : PySem.W.Frag) (H : Hp) : List (Key × V) → List (Key × Dv) → Prop := Paired fun p q => p.1 = q.1 ∧ Rep K H p.2 q.2
theorem RepF.mono (t : Tk K H H') {gs : List (Str × V)} {fs : List (Str × Dv)} (h : RepF K H gs fs) : RepF K H' gs fs := Paired.mapP h fun _ _ q => ⟨q.1, q.2.mono t⟩
theorem RepK.mono (t : Tk K H H') {gs : List (Key × V)} {fs : List (Key × Dv)} (h : RepK K H gs fs) : RepK K H' gs fs := Paired.mapP h fun _ _ q => ⟨q.1, q.2.mono t⟩
def RepO (K : PySem.W.Frag) (H : Hp) (a : Addr) : MO → Prop
  | .lst ds => ∃ xs, H a = some (.lst xs) ∧ RepL K H xs ds
  | .dK kvs => ∃ gs, H a = some (.dK gs) ∧ RepK K H gs kvs
  | .ins C dx fs => ∃ gs, H a = some (.ins C dx gs) ∧ RepF K H gs fs
  | .xd fs => ∃ gs, H a = some (.xd gs) ∧ RepF K H gs fs
theorem RepO.mono (t : Tk K H H') {a : Addr} {m : MO} (e : ∀ o, H a = some o → H' a = some o) (h : RepO K H a m) : RepO K H' a m := by
  cases m with
  | lst ds => obtain ⟨gs, h1, h2⟩ := h; exact ⟨gs, e _ h1, h2.mono t⟩
  | dK kvs => obtain ⟨gs, h1, h2⟩ := h; exact ⟨gs, e _ h1, h2.mono t⟩
  | ins C dx fs => obtain ⟨gs, h1, h2⟩ := h; exact ⟨gs, e _ h1, h2.mono t⟩
  | xd fs => obtain ⟨gs, h1, h2⟩ := h; exact ⟨gs, e _ h1, h2.mono t⟩
theorem RepO.mlst {a : Addr} {xs : List V} {ds : List Dv} (h : H a = some (.lst xs)) (r : RepL K H xs ds) : RepO K H a (.lst ds) := ⟨xs, h, r⟩
theorem RepO.mdK {a : Addr} {gs : List (Key × V)} {kvs : List (Key × Dv)} (h : H a = some (.dK gs)) (r : RepK K H gs kvs) : RepO K H a (.dK kvs) := ⟨gs, h, r⟩
theorem RepO.mins {a C dx : Addr} {gs : List (Str × V)} {fs : List (Str × Dv)} (h : H a = some (.ins C dx gs)) (r : RepF K H gs fs) : RepO K H a (.ins C dx fs) := ⟨gs, h, r⟩
theorem RepO.mxd {a : Addr} {gs : List (Str × V)} {fs : List (Str × Dv)} (h : H a = some (.xd gs)) (r : RepF K H gs fs) : RepO K H a (.xd fs) := ⟨gs, h, r⟩
theorem wr_lst {ys : List V} : (∀ xs, HO.lst ys ≠ .tup xs) ∧ (∀ ob z, HO.lst ys ≠ .frz ob z) := by constructor <;> intros <;> intro h <;> cases h
theorem wr_dK {ys : List (Key × V)} : (∀ xs, HO.dK ys ≠ .tup xs) ∧ (∀ ob z, HO.dK ys ≠ .frz ob z) := by constructor <;> intros <;> intro h <;> cases h
theorem wr_ins {C dx : Addr} {ys : List (Str × V)} : (∀ xs, HO.ins C dx ys ≠ .tup xs) ∧ (∀ ob z, HO.ins C dx ys ≠ .frz ob z) := by constructor <;> intros <;> intro h <;> cases h
theorem wr_xd {ys : List (Str × V)} : (∀ xs, HO.xd ys ≠ .tup xs) ∧ (∀ ob z, HO.xd ys ≠ .frz ob z) := by constructor <;> intros <;> intro h <;> cases h
theorem RepO.there {a : Addr} {m : MO} (h : RepO K H a m) : ∃ o, H a = some o := by
  cases m with
  | lst ds => obtain ⟨gs, h1, h2⟩ := h; exact ⟨_, h1⟩
  | dK kvs => obtain ⟨gs, h1, h2⟩ := h; exact ⟨_, h1⟩
  | ins C dx fs => obtain ⟨gs, h1, h2⟩ := h; exact ⟨_, h1⟩
  | xd fs => obtain ⟨gs, h1, h2⟩ := h; exact ⟨_, h1⟩
def Abs (K : PySem.W.Frag) (H : Hp) (S : Sto) : Prop := ∀ a m, S a = some m → RepO K H a m
theorem Abs.sub {S T : Sto} (h : Abs K H T) (s : Sub S T) : Abs K H S := fun a m e => h a m (s a m e)
theorem Abs.free {S : Sto} (h : Abs K H S) {p : Addr} (n : H p = none) : S p = none := by
  cases e : S p with
  | none => rfl
  | some m =>
    obtain ⟨o, q⟩ := (h p m e).there
    rw [n] at q; cases q
theorem Abs.new {S : Sto} {p : Addr} {o : HO} {m : MO} (h : Abs K H S) (n : H p = none) (q : RepO K (upd H p o) p m) : Abs K (upd H p o) (put S p m) := fun a k e => by
  by_cases z : a = p
  · subst z; rw [put_same] at e; cases e; exact q
  · rw [put_ne z] at e
    exact (h a k e).mono (Tk.new n) fun u hu => by rw [upd_ne z]; exact hu
theorem Abs.tup {S : Sto} {p : Addr} {o : HO} (h : Abs K H S) (n : H p = none) : Abs K (upd H p o) S := fun a k e =>
  (h a k e).mono (Tk.new n) fun u hu => by rw [upd_ne (ne_of_none hu n)]; exact hu
theorem Abs.write {S : Sto} {p : Addr} {o u : HO} {m : MO} (h : Abs K H S) (e : H p = some u) (q : (∀ xs, u ≠ .tup xs) ∧ (∀ ob z, u ≠ .frz ob z)) (r : RepO K (upd H p o) p m) : Abs K (upd H p o) (put S p m) := fun a k ek => by
  by_cases z : a = p
  · subst z; rw [put_same] at ek; cases ek; exact r
  · rw [put_ne z] at ek
    exact (h a k ek).mono (Tk.write e q) fun v hv => by rw [upd_ne z]; exact hv
/-- what is stored is in the heap or in the written part -/
theorem Abs.same {S : Sto} (h : Abs K H S) (e : Same H H') : Abs K H' S := fun a m q => (h a m q).mono (Tk.same e) (e a)
end

/-! slots -/
structure RepS (K : PySem.W.Frag) (H : Hp) (σ : L2.St) (ρ : Rho) : Prop where
  len : σ.length = ρ.length
  at_ : ∀ (i : Nat) (d : Dv), ρ[i]? = some (some d) → ∃ v, σ[i]? = some (some v) ∧ Rep K H v d
section
variable {K : PySem.W.Frag} {H H' : Hp} {σ : L2.St} {ρ : Rho}
theorem RepS.mono (t : Tk K H H') (h : RepS K H σ ρ) : RepS K H' σ ρ := ⟨h.len, fun i d e => by
  obtain ⟨v, h1, h2⟩ := h.at_ i d e
  exact ⟨v, h1, h2.mono t⟩⟩
theorem RepS.set {v : V} {d : Dv} (h : RepS K H σ ρ) (i : Nat) (r : Rep K H v d) : RepS K H (σ.set i (some v)) (ρ.set i (some d)) := by
  refine ⟨by simp [h.len], fun j e q => ?_⟩
  by_cases hj : i = j
  · subst hj
    by_cases hl : i < ρ.length
    · rw [List.getElem?_set_self hl] at q
      cases q
      exact ⟨v, List.getElem?_set_self (by rw [h.len]; exact hl), r⟩
    · rw [List.getElem?_eq_none (by simp; omega)] at q; cases q
  · rw [List.getElem?_set_ne hj] at q ⊢
    exact h.at_ j e q
theorem RepS.setN (h : RepS K H σ ρ) (i : Nat) : RepS K H (σ.set i none) (ρ.set i none) := by
  refine ⟨by simp [h.len], fun j e q => ?_⟩
  by_cases hj : i = j
  · subst hj
    by_cases hl : i < ρ.length
    · rw [List.getElem?_set_self hl] at q; cases q
    · rw [List.getElem?_eq_none (by simp; omega)] at q; cases q
  · rw [List.getElem?_set_ne hj] at q ⊢
    exact h.at_ j e q
def wipeD (ρ : Rho) : List Nat → Rho
  | [] => ρ
  | v :: vs => (wipeD ρ vs).set v none
theorem RepS.wipe (h : RepS K H σ ρ) : ∀ vs, RepS K H (wipe σ vs) (wipeD ρ vs)
  | [] => h
  | v :: vs => (RepS.wipe h vs).setN v
def startD (N : List Str) (ds : List Dv) : Rho := ds.map some ++ List.replicate (N.length - ds.length) none
theorem RepS.start {N : List Str} : ∀ {vs : List V} {ds : List Dv}, RepL K H vs ds → RepS K H (start N vs) (startD N ds) := fun {vs ds} r => by
  have hl := r.length
  refine ⟨by simp [L2.start, startD, hl], fun i d e => ?_⟩
  unfold startD at e
  unfold L2.start
  by_cases hi : i < ds.length
  · rw [List.getElem?_append_left (by simpa using hi), List.getElem?_map] at e
    obtain ⟨d', e1, e2⟩ : ∃ d', ds[i]? = some d' ∧ d' = d := by
      cases q : ds[i]? with
      | none => rw [q] at e; cases e
      | some d' => rw [q] at e; cases e; exact ⟨_, rfl, rfl⟩
    subst e2
    obtain ⟨v, h1, h2⟩ := r.get e1
    exact ⟨v, by rw [List.getElem?_append_left (by simp; omega), List.getElem?_map, h1]; rfl, h2⟩
  · rw [List.getElem?_append_right (by simpa using hi)] at e
    rw [List.getElem?_replicate] at e
    split at e <;> cases e
end
end VD

namespace VD
open PySem PySem.Spec PyProof.Rows L2

abbrev QD := Dv → Sto → Prop
abbrev XD := Value → Option Addr → Sto → Prop
abbrev DE := Rho → Sto → QD → XD → Prop
abbrev DT := Rho → Sto → (Bool → Sto → Prop) → XD → Prop
abbrev DA := Rho → Sto → (List Dv → Sto → Prop) → XD → Prop
abbrev DO := Rho → Sto → (Option Int → Sto → Prop) → XD → Prop
structure DEnds where
  nx : Rho → Sto → Prop
  rt : Dv → Sto → Prop
  bk : Rho → Sto → Prop := fun _ _ => False
  ct : Rho → Sto → Prop := fun _ _ => False
  ex : Value → Option Addr → Rho → Sto → Prop := fun _ _ _ _ => False
abbrev DS := DEnds → Rho → Sto → Prop
abbrev W0 : WX := fun _ _ _ _ => False
abbrev X0 : XD := fun _ _ _ => False

section
variable (K : PySem.W.Frag) (W : WX)
def Lk (H : Hp) (Qh : QD) (Q : VK) : Prop := ∀ d S' v H', Qh d S' → Tk K H H' → Rep K H' v d → Abs K H' S' → Q v H'
def LkT (H : Hp) (Qh : Bool → Sto → Prop) (Q : Bool → Hp → Prop) : Prop := ∀ b S' H', Qh b S' → Tk K H H' → Abs K H' S' → Q b H'
def LkA (H : Hp) (Qh : List Dv → Sto → Prop) (Q : List V → Hp → Prop) : Prop := ∀ ds S' vs H', Qh ds S' → Tk K H H' → RepL K H' vs ds → Abs K H' S' → Q vs H'
def LkO (H : Hp) (Qh : Option Int → Sto → Prop) (Q : Option Int → Hp → Prop) : Prop := ∀ o S' H', Qh o S' → Tk K H H' → Abs K H' S' → Q o H'
def LkG (H : Hp) (Qh : Rho → Sto → Prop) (Q : L2.St → Hp → Prop) : Prop := ∀ ρ' S' σ' H', Qh ρ' S' → Tk K H H' → RepS K H' σ' ρ' → Abs K H' S' → Q σ' H'
def Lx (σ : L2.St) (H : Hp) (Xh : XD) : Prop := ∀ c da S' H', Xh c da S' → Tk K H H' → Abs K H' S' → W c da σ H'
structure LkS (H : Hp) (Dh : DEnds) (D : Ends) : Prop where
  nx : LkG K H Dh.nx D.nx
  rt : Lk K H Dh.rt D.rt
  bk : LkG K H Dh.bk D.bk
  ct : LkG K H Dh.ct D.ct
  ex : ∀ c da, LkG K H (Dh.ex c da) (W c da)
def low (de : DE) : TE := fun σ H Q => ∃ ρ S Qh Xh, RepS K H σ ρ ∧ Abs K H S ∧ de ρ S Qh Xh ∧ Lk K H Qh Q ∧ Lx K W σ H Xh
def lowT (dt : DT) : TT := fun σ H Q => ∃ ρ S Qh Xh, RepS K H σ ρ ∧ Abs K H S ∧ dt ρ S Qh Xh ∧ LkT K H Qh Q ∧ Lx K W σ H Xh
def lowA (da : DA) : TA := fun σ H Q => ∃ ρ S Qh Xh, RepS K H σ ρ ∧ Abs K H S ∧ da ρ S Qh Xh ∧ LkA K H Qh Q ∧ Lx K W σ H Xh
def lowO (da : DO) : TO := fun σ H Q => ∃ ρ S Qh Xh, RepS K H σ ρ ∧ Abs K H S ∧ da ρ S Qh Xh ∧ LkO K H Qh Q ∧ Lx K W σ H Xh
def lowS (ds : DS) : TS := fun D σ H => ∃ ρ S Dh, RepS K H σ ρ ∧ Abs K H S ∧ ds Dh ρ S ∧ LkS K W H Dh D
end
section
variable {K : PySem.W.Frag} {W : WX} {H H1 : Hp} {σ : L2.St}
theorem Lk.mono {Qh : QD} {Q : VK} (k : Lk K H Qh Q) (t : Tk K H H1) : Lk K H1 Qh Q := fun d S v H' q t' => k d S v H' q (t.trans t')
theorem LkT.mono {Qh : Bool → Sto → Prop} {Q : Bool → Hp → Prop} (k : LkT K H Qh Q) (t : Tk K H H1) : LkT K H1 Qh Q := fun d S H' q t' => k d S H' q (t.trans t')
theorem LkA.mono {Qh : List Dv → Sto → Prop} {Q : List V → Hp → Prop} (k : LkA K H Qh Q) (t : Tk K H H1) : LkA K H1 Qh Q := fun d S v H' q t' => k d S v H' q (t.trans t')
theorem LkO.mono {Qh : Option Int → Sto → Prop} {Q : Option Int → Hp → Prop} (k : LkO K H Qh Q) (t : Tk K H H1) : LkO K H1 Qh Q := fun d S H' q t' => k d S H' q (t.trans t')
theorem LkG.mono {Qh : Rho → Sto → Prop} {Q : L2.St → Hp → Prop} (k : LkG K H Qh Q) (t : Tk K H H1) : LkG K H1 Qh Q := fun d S v H' q t' => k d S v H' q (t.trans t')
theorem Lx.mono {Xh : XD} (k : Lx K W σ H Xh) (t : Tk K H H1) : Lx K W σ H1 Xh := fun c d S H' q t' => k c d S H' q (t.trans t')
theorem LkS.mono {Dh : DEnds} {D : Ends} (k : LkS K W H Dh D) (t : Tk K H H1) : LkS K W H1 Dh D := ⟨k.nx.mono t, k.rt.mono t, k.bk.mono t, k.ct.mono t, fun c d => (k.ex c d).mono t⟩
theorem Lk.now {Qh : QD} {Q : VK} (k : Lk K H Qh Q) {d : Dv} {S : Sto} {v : V} (q : Qh d S) (r : Rep K H v d) (a : Abs K H S) : Q v H := k d S v H q (Tk.refl H) r a
end

/-! weaker readings -/
section
variable {X : Cx}
theorem pei {e : Expr} {t t' : TE} (h : PE X e t) (i : ∀ σ H Q, t' σ H Q → t σ H Q) : PE X e t' := ⟨fun pins s σ H Q I q => h.run pins s σ H Q I (i σ H Q q)⟩
theorem pti {e : Expr} {t t' : TT} (h : PT X e t) (i : ∀ σ H Q, t' σ H Q → t σ H Q) : PT X e t' := ⟨fun pins s σ H Q I q => h.run pins s σ H Q I (i σ H Q q)⟩
theorem pwi {e : Expr} {t t' : TT} (h : PW X e t) (i : ∀ σ H Q, t' σ H Q → t σ H Q) : PW X e t' := ⟨fun wh pins s σ H Q I q => h.run wh pins s σ H Q I (i σ H Q q)⟩
theorem pai {e : List Expr} {t t' : TA} (h : PA X e t) (i : ∀ σ H Q, t' σ H Q → t σ H Q) : PA X e t' := ⟨fun pos pins s σ H Q I q => h.run pos pins s σ H Q I (i σ H Q q)⟩
theorem poi {e : Option Expr} {t t' : TO} (h : PO X e t) (i : ∀ σ H Q, t' σ H Q → t σ H Q) : PO X e t' := ⟨fun pins s σ H Q I q => h.run pins s σ H Q I (i σ H Q q)⟩
theorem psi {e : Stmt} {t t' : TS} (h : PS X e t) (i : ∀ D σ H, t' D σ H → t D σ H) : PS X e t' := ⟨fun pins s σ H D I q => h.run pins s σ H D I (i D σ H q)⟩
theorem pssi {e : List Stmt} {t t' : TS} (h : PSs X e t) (i : ∀ D σ H, t' D σ H → t D σ H) : PSs X e t' := ⟨fun pins s σ H D I q => h.run pins s σ H D I (i D σ H q)⟩
end

section
variable {X : Cx} {W : WX} {a b c e : Expr} {da db dc de : DE} {pos : Pos} {es : List Expr} {das : DA}

/-! names, constants -/
def dVar (i : Nat) : DE := fun ρ S Q _ => ∃ d, ρ[i]? = some (some d) ∧ Q d S
def dC (d : Dv) : DE := fun _ S Q _ => Q d S
theorem low_var (i : Nat) : ∀ σ H Q, low X.K W (dVar i) σ H Q → tVar i σ H Q := fun σ H Q ⟨ρ, S, Qh, Xh, hσ, hS, h, k, x⟩ => by
  obtain ⟨d, e, q⟩ := h
  obtain ⟨v, e', r⟩ := hσ.at_ i d e
  exact ⟨v, e', k.now q r hS⟩
theorem dv (i : Nat) {x : Str} {pos : Pos} (hN : X.N[i]? = some x := by rfl) (hv : Vis X.env.scope x := by first | exact Or.inl rfl | exact Or.inr (Or.inl rfl) | exact Or.inr (Or.inr rfl)) (hd : (x == ("__debug__" : Str)) = false := by decide)
    (hcd : (x == ("__classdict__" : Str)) = false := by decide) : PE X (.Name x pos) (low X.K W (dVar i)) := pei (pv i hN hv hd hcd) (low_var i)
theorem low_c {v : V} {d : Dv} (r : ∀ H, Rep X.K H v d) : ∀ σ H Q, low X.K W (dC d) σ H Q → tC v σ H Q := fun σ H Q ⟨ρ, S, Qh, Xh, hσ, hS, h, k, x⟩ => k.now h (r H) hS
theorem d_int {i j pos} : PE X (.Constant (.int i) j pos) (low X.K W (dC (.int i))) := pei pe_int (low_c fun _ => .int i)
theorem d_bl {b j pos} : PE X (.Constant (.bool b) j pos) (low X.K W (dC (.bl b))) := pei pe_bl (low_c fun _ => .bl b)
theorem d_non {j pos} : PE X (.Constant .none j pos) (low X.K W (dC .non)) := pei pe_non (low_c fun _ => .non)
theorem d_str {x j pos} : PE X (.Constant (.str x) j pos) (low X.K W (dC (.str x))) := pei pe_str (low_c fun _ => .str x)
/-- a written value as data -/
inductive VRep (K : PySem.W.Frag) : Value → Dv → Prop
  | mk {u : Value} {v : V} {d : Dv} (r : RelV v u) (h : ∀ H, Rep K H v d) : VRep K u d
theorem d_glob {x : Str} {u : Value} {d : Dv} {pos : Pos} (hm : X.mg x = some u) (r : VRep X.K u d) (hg : Gl X x := by rfl) (hd : (x == ("__debug__" : Str)) = false := by decide) : PE X (.Name x pos) (low X.K W (dC d)) := by
  cases r with | mk r h => exact pei (pe_glob hg hm r hd) (low_c h)
theorem d_bltn {x : Str} {v : V} {u : Value} {d : Dv} {pos : Pos} (hm : X.mg x = none) (hv : bootBuiltins x = some u) (r : RelV v u) (h : ∀ H, Rep X.K H v d) (hg : Gl X x := by rfl) (hn : x ≠ "__name__" := by decide) (hd : (x == ("__debug__" : Str)) = false := by decide) :
    PE X (.Name x pos) (low X.K W (dC d)) := pei (pe_bltn hg hm hv r hn hd) (low_c h)

/-! arguments -/
def dNil : DA := fun _ S Q _ => Q [] S
def dCons (da : DE) (dr : DA) : DA := fun ρ S Q X => da ρ S (fun x S1 => dr ρ S1 (fun xs S2 => Q (x :: xs) S2) X) X
theorem da_nil : PA X [] (lowA X.K W dNil) := pai pa_nil fun σ H Q ⟨ρ, S, Qh, Xh, hσ, hS, h, k, x⟩ => k [] S [] H h (Tk.refl H) .nil hS
theorem da_cons (ha : PE X e (low X.K W de)) (hr : PA X es (lowA X.K W das)) (hs : starEach (e :: es) X.env = (false, eval e X.env) :: starEach es X.env := by rfl) : PA X (e :: es) (lowA X.K W (dCons de das)) :=
  pai (pa_cons ha hr hs) fun σ H Q ⟨ρ, S, Qh, Xh, hσ, hS, h, k, x⟩ => ⟨ρ, S, _, Xh, hσ, hS, h, fun d S1 v H1 q1 t1 r1 a1 => ⟨ρ, S1, _, Xh, hσ.mono t1, a1, q1, fun ds S2 vs H2 q2 t2 r2 a2 => k _ S2 _ H2 q2 (t1.trans t2) (.cons (r1.mono t2) r2) a2, x.mono t1⟩, x⟩

/-! two-place operators -/
abbrev RD2 := Dv → Dv → Sto → QD → Prop
def LR2 (K : PySem.W.Frag) (r : R2) (rd : RD2) : Prop := ∀ x y H dx dy S Qh Q, Rep K H x dx → Rep K H y dy → Abs K H S → rd dx dy S Qh → Lk K H Qh Q → r x y H Q
def dOp (rd : RD2) (da db : DE) : DE := fun ρ S Q X => da ρ S (fun x S1 => db ρ S1 (fun y S2 => rd x y S2 Q) X) X
theorem low_op {r : R2} {rd : RD2} (hl : LR2 X.K r rd) : ∀ σ H Q, low X.K W (dOp rd da db) σ H Q → tOp r (low X.K W da) (low X.K W db) σ H Q := fun σ H Q ⟨ρ, S, Qh, Xh, hσ, hS, h, k, x⟩ =>
  ⟨ρ, S, _, Xh, hσ, hS, h, fun d1 S1 v1 H1 q1 t1 r1 a1 => ⟨ρ, S1, _, Xh, hσ.mono t1, a1, q1, fun d2 S2 v2 H2 q2 t2 r2 a2 => hl v1 v2 H2 d1 d2 S2 Qh Q (r1.mono t2) r2 a2 q2 (k.mono (t1.trans t2)), x.mono t1⟩, x⟩
theorem d_op {op : Operator} {r : R2} {rd : RD2} (ho : OpR X (binaryOp op) r) (hl : LR2 X.K r rd) (ha : PE X a (low X.K W da)) (hb : PE X b (low X.K W db)) : PE X (.BinOp a op b pos) (low X.K W (dOp rd da db)) := pei (pe_op ho ha hb) (low_op hl)
theorem d_cmp {op : CmpOp} {r : R2} {rd : RD2} (ho : OpR X (compareOp op) r) (hl : LR2 X.K r rd) (ha : PE X a (low X.K W da)) (hb : PE X b (low X.K W db)) (hm : behindInMarks op b = false := by first | exact nomark _ | rfl) :
    PE X (.Compare a [op] [b] pos) (low X.K W (dOp rd da db)) := pei (pe_cmpR ho ha hb hm) (low_op hl)
/-- an expression's truth, a bool -/
def dTest (de : DE) : DT := fun ρ S Q X => de ρ S (fun x S1 => match x with | .bl b => Q b S1 | _ => False) X
theorem low_tB {σ H} {Q : Bool → Hp → Prop} : lowT X.K W (dTest de) σ H Q → (low X.K W de) σ H (fun x H1 => ∃ c, x = .bl c ∧ Q c H1) := fun ⟨ρ, S, Qh, Xh, hσ, hS, h, k, x⟩ =>
  ⟨ρ, S, _, Xh, hσ, hS, h, fun d1 S1 v1 H1 q1 t1 r1 a1 => by
    cases d1 with
    | bl b => exact ⟨b, r1.i_bl, k b S1 H1 q1 t1 a1⟩
    | _ => exact q1.elim, x⟩
theorem t_cmp {op : CmpOp} {r : R2} {rd : RD2} (ho : OpR X (compareOp op) r) (hl : LR2 X.K r rd) (ha : PE X a (low X.K W da)) (hb : PE X b (low X.K W db)) (hm : behindInMarks op b = false := by first | exact nomark _ | rfl) :
    PT X (.Compare a [op] [b] pos) (lowT X.K W (dTest (dOp rd da db))) := pti (pt_cmpR ho ha hb hm) fun σ H Q h => by
  obtain ⟨ρ, S, Qh, Xh, hσ, hS, h, k, x⟩ := low_tB h
  exact low_op hl σ H _ ⟨ρ, S, Qh, Xh, hσ, hS, h, k, x⟩
theorem t_val (h : PE X e (low X.K W de)) (he : ∀ whole, isTrue e X.env whole = (do let v ← whole; standAt e.pos; holding [v] (truthy v)) := by intro _; rfl) : PT X e (lowT X.K W (dTest de)) := pti (pt_val h he) fun σ H Q q => low_tB q
def dChain (r r' : RD2) (da db dc : DE) : DE := fun ρ S Q X => da ρ S (fun x S1 => db ρ S1 (fun y S2 => r x y S2 fun z S3 => match z with
  | .bl true => dc ρ S3 (fun u S4 => r' y u S4 Q) X
  | .bl false => Q (.bl false) S3
  | _ => False) X) X
end

/-! builtins -/
abbrev RDC := List Dv → Sto → QD → Prop
def LRC (K : PySem.W.Frag) (r : List V → Hp → VK → Prop) (rd : RDC) : Prop := ∀ vs H ds S Qh Q, RepL K H vs ds → Abs K H S → rd ds S Qh → Lk K H Qh Q → r vs H Q
def dCB (rd : RDC) (das : DA) : DE := fun ρ S Q X => das ρ S (fun ds S1 => rd ds S1 Q) X
section
variable {X : Cx} {W : WX} {a b c e : Expr} {da db dc de : DE} {pos p : Pos} {es : List Expr} {das : DA} {x : Str} {id T : String} {r : List V → Hp → VK → Prop} {rd : RDC}
theorem low_cb (hl : LRC X.K r rd) : ∀ σ H Q, low X.K W (dCB rd das) σ H Q → tCB r (lowA X.K W das) σ H Q := fun σ H Q ⟨ρ, S, Qh, Xh, hσ, hS, h, k, x⟩ =>
  ⟨ρ, S, _, Xh, hσ, hS, h, fun ds S1 vs H1 q1 t1 r1 a1 => hl vs H1 ds S1 Qh Q r1 a1 q1 (k.mono t1), x⟩
theorem d_callB (hc : CallR X (.builtin id) r) (hl : LRC X.K r rd) (hm : X.mg x = none) (hv : bootBuiltins x = some (.builtin id)) (ha : PA X (e :: es) (lowA X.K W das)) (hg : Gl X x := by rfl) (hn : x ≠ "__name__" := by decide) (hdb : (x == ("__debug__" : Str)) = false := by decide)
    (he : starEach (e :: es) X.env = (false, eval e X.env) :: starEach es X.env := by rfl) (hpl : (backTo pos (starEach es X.env)).any (·.1) = false := by rfl) : PE X (.Call (.Name x p) (e :: es) [] pos) (low X.K W (dCB rd das)) := pei (pe_callB hc hg hm hv ha hn hdb he hpl) (low_cb hl)
theorem d_callTy (hc : CallR X (.type T) r) (hl : LRC X.K r rd) (hm : X.mg x = none) (hv : bootBuiltins x = some (.type T)) (ha : PA X (e :: es) (lowA X.K W das)) (hg : Gl X x := by rfl) (hn : x ≠ "__name__" := by decide) (hdb : (x == ("__debug__" : Str)) = false := by decide)
    (he : starEach (e :: es) X.env = (false, eval e X.env) :: starEach es X.env := by rfl) (hpl : (backTo pos (starEach es X.env)).any (·.1) = false := by rfl) : PE X (.Call (.Name x p) (e :: es) [] pos) (low X.K W (dCB rd das)) := pei (pe_callTy hc hg hm hv ha hn hdb he hpl) (low_cb hl)

/-! own defs -/
abbrev SpD := List Dv → Sto → QD → XD → Prop
def LxE (K : PySem.W.Frag) (H : Hp) (Xh : XD) (E : XK) : Prop := ∀ c da S' H', Xh c da S' → Tk K H H' → Abs K H' S' → E c da H'
def lowF (K : PySem.W.Frag) (sp : SpD) : Sp := fun vs H Q E => ∃ ds S Qh Xh, RepL K H vs ds ∧ Abs K H S ∧ sp ds S Qh Xh ∧ Lk K H Qh Q ∧ LxE K H Xh E
def dCall (sp : SpD) (das : DA) : DE := fun ρ S Q X => das ρ S (fun ds S1 => sp ds S1 Q X) X
variable {sp : SpD} {k : Nat} {f : Addr} {fd : FuncData} {ps : List Str}
abbrev FnD (P : Program) (w : World) (K : PySem.W.Frag) (mg : Str → Option Value) (base : Heap) (k : Nat) (f : Addr) (fd : FuncData) (ps : List Str) (sp : SpD) : Prop := FnOk P w K mg base (L2.CX P w) k f fd ps (lowF K sp)
theorem d_call (F : FnD X.prog X.w X.K X.mg X.base k f fd ps sp) (hr : Room k X.A) (hm : X.mg x = some (.ref f)) (hk : PySem.W.keepIn X.K (.ref f) = true) (hb : Binds X.K fd ps []) (tk : Takes X W) (ha : PA X (e :: es) (lowA X.K W das))
    (hg : Gl X x := by rfl) (hdb : (x == ("__debug__" : Str)) = false := by decide) (he : starEach (e :: es) X.env = (false, eval e X.env) :: starEach es X.env := by rfl) (hpl : (backTo pos (starEach es X.env)).any (·.1) = false := by rfl) :
    PE X (.Call (.Name x p) (e :: es) [] pos) (low X.K W (dCall sp das)) :=
  pei (pe_callS F hr hg hm hk hb (fun σ => passAt tk σ) ha hdb he hpl) fun σ H Q ⟨ρ, S, Qh, Xh, hσ, hS, h, k, x⟩ => ⟨ρ, S, _, Xh, hσ, hS, h, fun ds S1 vs H1 q1 t1 r1 a1 => ⟨ds, S1, Qh, Xh, r1, a1, q1, k.mono t1, x.mono t1⟩, x⟩
end

/-! and, or, not, if as values and as tests -/
section
variable {X : Cx} {W : WX} {a b c e : Expr} {da db dc de : DE} {pos : Pos} {rest : List Expr} {ta tb : DT}
def dAndV (da db : DE) : DE := fun ρ S Q X => da ρ S (fun x S1 => match x with | .bl true => db ρ S1 Q X | .bl false => Q (.bl false) S1 | _ => False) X
def dOrV (da db : DE) : DE := fun ρ S Q X => da ρ S (fun x S1 => match x with | .bl true => Q (.bl true) S1 | .bl false => db ρ S1 Q X | _ => False) X
def dNotV (da : DE) : DE := fun ρ S Q X => da ρ S (fun x S1 => match x with | .bl b => Q (.bl (!b)) S1 | _ => False) X
def dIf (t : DT) (da db : DE) : DE := fun ρ S Q X => t ρ S (fun b S1 => if b = true then da ρ S1 Q X else db ρ S1 Q X) X
theorem d_one {op} (h : PE X a (low X.K W da)) : PE X (.BoolOp op [a] pos) (low X.K W da) := pe_one h
theorem d_and (ha : PE X a (low X.K W da)) (hb : PE X (.BoolOp .And (b :: rest) pos) (low X.K W db)) : PE X (.BoolOp .And (a :: b :: rest) pos) (low X.K W (dAndV da db)) := pei (pe_and ha hb) fun σ H Q ⟨ρ, S, Qh, Xh, hσ, hS, h, k, x⟩ =>
  ⟨ρ, S, _, Xh, hσ, hS, h, fun d1 S1 v1 H1 q1 t1 r1 a1 => by
    cases d1 with
    | bl b =>
      refine ⟨b, r1.i_bl, ?_⟩
      cases b with
      | true => exact ⟨ρ, S1, Qh, Xh, hσ.mono t1, a1, q1, k.mono t1, x.mono t1⟩
      | false => exact (k.mono t1).now q1 (.bl false) a1
    | _ => exact q1.elim, x⟩
theorem d_or (ha : PE X a (low X.K W da)) (hb : PE X (.BoolOp .Or (b :: rest) pos) (low X.K W db)) : PE X (.BoolOp .Or (a :: b :: rest) pos) (low X.K W (dOrV da db)) := pei (pe_or ha hb) fun σ H Q ⟨ρ, S, Qh, Xh, hσ, hS, h, k, x⟩ =>
  ⟨ρ, S, _, Xh, hσ, hS, h, fun d1 S1 v1 H1 q1 t1 r1 a1 => by
    cases d1 with
    | bl b =>
      refine ⟨b, r1.i_bl, ?_⟩
      cases b with
      | false => exact ⟨ρ, S1, Qh, Xh, hσ.mono t1, a1, q1, k.mono t1, x.mono t1⟩
      | true => exact (k.mono t1).now q1 (.bl true) a1
    | _ => exact q1.elim, x⟩
theorem d_not (ha : PE X a (low X.K W da)) : PE X (.UnaryOp .Not a pos) (low X.K W (dNotV da)) := pei (pe_not ha) fun σ H Q ⟨ρ, S, Qh, Xh, hσ, hS, h, k, x⟩ =>
  ⟨ρ, S, _, Xh, hσ, hS, h, fun d1 S1 v1 H1 q1 t1 r1 a1 => by
    cases d1 with
    | bl b => exact ⟨b, r1.i_bl, (k.mono t1).now q1 (.bl _) a1⟩
    | _ => exact q1.elim, x⟩
theorem d_ifExp (hc : PT X c (lowT X.K W ta)) (ha : PE X a (low X.K W da)) (hb : PE X b (low X.K W db)) : PE X (.IfExp c a b pos) (low X.K W (dIf ta da db)) := pei (pe_ifExp hc ha hb) fun σ H Q ⟨ρ, S, Qh, Xh, hσ, hS, h, k, x⟩ =>
  ⟨ρ, S, _, Xh, hσ, hS, h, fun b S1 H1 q1 t1 a1 => by
    cases b with
    | true => exact ⟨ρ, S1, Qh, Xh, hσ.mono t1, a1, q1, k.mono t1, x.mono t1⟩
    | false => exact ⟨ρ, S1, Qh, Xh, hσ.mono t1, a1, q1, k.mono t1, x.mono t1⟩, x⟩
def dAndT (t u : DT) : DT := fun ρ S Q X => t ρ S (fun b S1 => if b = true then u ρ S1 Q X else Q false S1) X
def dOrT (t u : DT) : DT := fun ρ S Q X => t ρ S (fun b S1 => if b = true then Q true S1 else u ρ S1 Q X) X
def dNotT (t : DT) : DT := fun ρ S Q X => t ρ S (fun b S1 => Q (!b) S1) X
theorem t_and1 (ha : PT X a (lowT X.K W ta)) : PW X (.BoolOp .And [a] pos) (lowT X.K W ta) := pw_and1 ha
theorem t_or1 (ha : PT X a (lowT X.K W ta)) : PW X (.BoolOp .Or [a] pos) (lowT X.K W ta) := pw_or1 ha
theorem t_and (ha : PT X a (lowT X.K W ta)) (hb : PW X (.BoolOp .And (b :: rest) pos) (lowT X.K W tb)) : PW X (.BoolOp .And (a :: b :: rest) pos) (lowT X.K W (dAndT ta tb)) := pwi (pw_and ha hb) fun σ H Q ⟨ρ, S, Qh, Xh, hσ, hS, h, k, x⟩ =>
  ⟨ρ, S, _, Xh, hσ, hS, h, fun b S1 H1 q1 t1 a1 => by
    cases b with
    | true => exact ⟨ρ, S1, Qh, Xh, hσ.mono t1, a1, q1, k.mono t1, x.mono t1⟩
    | false => exact k _ S1 H1 q1 t1 a1, x⟩
theorem t_or (ha : PT X a (lowT X.K W ta)) (hb : PW X (.BoolOp .Or (b :: rest) pos) (lowT X.K W tb)) : PW X (.BoolOp .Or (a :: b :: rest) pos) (lowT X.K W (dOrT ta tb)) := pwi (pw_or ha hb) fun σ H Q ⟨ρ, S, Qh, Xh, hσ, hS, h, k, x⟩ =>
  ⟨ρ, S, _, Xh, hσ, hS, h, fun b S1 H1 q1 t1 a1 => by
    cases b with
    | true => exact k _ S1 H1 q1 t1 a1
    | false => exact ⟨ρ, S1, Qh, Xh, hσ.mono t1, a1, q1, k.mono t1, x.mono t1⟩, x⟩
theorem t_not (ha : PT X a (lowT X.K W ta)) : PT X (.UnaryOp .Not a pos) (lowT X.K W (dNotT ta)) := pti (pt_not ha) fun σ H Q ⟨ρ, S, Qh, Xh, hσ, hS, h, k, x⟩ =>
  ⟨ρ, S, _, Xh, hσ, hS, h, fun b S1 H1 q1 t1 a1 => k _ S1 H1 q1 t1 a1, x⟩
theorem d_chain {op op' : CmpOp} {r r' : R2} {rd rd' : RD2} (ho : OpR X (compareOp op) r) (hl : LR2 X.K r rd) (ho' : OpR X (compareOp op') r') (hl' : LR2 X.K r' rd') (ha : PE X a (low X.K W da)) (hb : PE X b (low X.K W db)) (hc : PE X c (low X.K W dc))
    (hm : lastMarks [op, op'] [b, c] = false := by with_unfolding_all rfl) : PE X (.Compare a [op, op'] [b, c] pos) (low X.K W (dChain rd rd' da db dc)) :=
  pei (pe_chain ho ho' ha hb hc hm) fun σ H Q ⟨ρ, S, Qh, Xh, hσ, hS, h, k, x⟩ =>
  ⟨ρ, S, _, Xh, hσ, hS, h, fun d1 S1 v1 H1 q1 t1 r1 a1 => ⟨ρ, S1, _, Xh, hσ.mono t1, a1, q1, fun d2 S2 v2 H2 q2 t2 r2 a2 => hl v1 v2 H2 d1 d2 S2 _ _ (r1.mono t2) r2 a2 q2 fun d3 S3 v3 H3 q3 t3 r3 a3 => by
    cases d3 with
    | bl b =>
      refine ⟨b, r3.i_bl, ?_⟩
      cases b with
      | true =>
        refine iteT ⟨ρ, S3, _, Xh, hσ.mono ((t1.trans t2).trans t3), a3, q3, fun d4 S4 v4 H4 q4 t4 r4 a4 => hl' v2 v4 H4 d2 d4 S4 Qh Q (r2.mono (t3.trans t4)) r4 a4 q4 (k.mono (((t1.trans t2).trans t3).trans t4)), x.mono ((t1.trans t2).trans t3)⟩
      | false => exact iteF ((k.mono ((t1.trans t2).trans t3)).now q3 (.bl false) a3)
    | _ => exact q3.elim, x.mono t1⟩, x⟩
theorem t_chain {op op' : CmpOp} {r r' : R2} {rd rd' : RD2} (ho : OpR X (compareOp op) r) (hl : LR2 X.K r rd) (ho' : OpR X (compareOp op') r') (hl' : LR2 X.K r' rd') (ha : PE X a (low X.K W da)) (hb : PE X b (low X.K W db)) (hc : PE X c (low X.K W dc))
    (hm : lastMarks [op, op'] [b, c] = false := by with_unfolding_all rfl) : PT X (.Compare a [op, op'] [b, c] pos) (lowT X.K W (dTest (dChain rd rd' da db dc))) :=
  pti (pt_chain ho ho' ha hb hc hm) fun σ H Q h => by
  obtain ⟨ρ, S, Qh, Xh, hσ, hS, h, k, x⟩ := low_tB h
  exact ⟨ρ, S, _, Xh, hσ, hS, h, fun d1 S1 v1 H1 q1 t1 r1 a1 => ⟨ρ, S1, _, Xh, hσ.mono t1, a1, q1, fun d2 S2 v2 H2 q2 t2 r2 a2 => hl v1 v2 H2 d1 d2 S2 _ _ (r1.mono t2) r2 a2 q2 fun d3 S3 v3 H3 q3 t3 r3 a3 => by
    cases d3 with
    | bl b =>
      refine ⟨b, r3.i_bl, ?_⟩
      cases b with
      | true =>
        refine iteT ⟨ρ, S3, _, Xh, hσ.mono ((t1.trans t2).trans t3), a3, q3, fun d4 S4 v4 H4 q4 t4 r4 a4 => hl' v2 v4 H4 d2 d4 S4 Qh _ (r2.mono (t3.trans t4)) r4 a4 q4 (k.mono (((t1.trans t2).trans t3).trans t4)), x.mono ((t1.trans t2).trans t3)⟩
      | false =>
        exact iteF ((k.mono ((t1.trans t2).trans t3)).now q3 (.bl false) a3)
    | _ => exact q3.elim, x.mono t1⟩, x⟩
end
end VD

namespace VD
open PySem PySem.Spec PyProof.Rows L2

section
variable {K : PySem.W.Frag} {W : WX} {H H1 : Hp} {σ : L2.St} {ρ : Rho}
theorem LkS.lx {Dh : DEnds} {D : Ends} (k : LkS K W H Dh D) (hσ : RepS K H σ ρ) : Lx K W σ H (fun c da S => Dh.ex c da ρ S) := fun c da S' H' q t a => k.ex c da ρ S' σ H' q t (hσ.mono t) a
theorem LkS.nexts {Dh : DEnds} {D : Ends} (k : LkS K W H Dh D) {nh : Rho → Sto → Prop} {n : L2.St → Hp → Prop} (h : LkG K H nh n) : LkS K W H { Dh with nx := nh } { D with nx := n } := ⟨h, k.rt, k.bk, k.ct, k.ex⟩
theorem LkS.loop {Dh : DEnds} {D : Ends} (k : LkS K W H Dh D) {nh : Rho → Sto → Prop} {n : L2.St → Hp → Prop} (h : LkG K H nh n) : LkS K W H { Dh with nx := nh, ct := nh, bk := Dh.nx } { D with nx := n, ct := n, bk := D.nx } := ⟨h, k.rt, k.nx, h, k.ex⟩
theorem LkG.now {Qh : Rho → Sto → Prop} {Q : L2.St → Hp → Prop} (k : LkG K H Qh Q) {S : Sto} (q : Qh ρ S) (r : RepS K H σ ρ) (a : Abs K H S) : Q σ H := k ρ S σ H q (Tk.refl H) r a
end
/-- the ends of a statement as the wish of an expression -/
abbrev DEnds.xd (D : DEnds) (ρ : Rho) : XD := fun c da S => D.ex c da ρ S

section
variable {X : Cx} {W : WX} {st : Stmt} {rest sts body : List Stmt} {a b : DS} {e c : Expr} {de : DE} {dt : DT} {pos : Pos}
def dSeq (a b : DS) : DS := fun D ρ S => a { D with nx := b D } ρ S
def dNext : DS := fun D ρ S => D.nx ρ S
theorem s_nil : PSs X [] (lowS X.K W dNext) := pssi pss_nil fun D σ H ⟨ρ, S, Dh, hσ, hS, h, k⟩ => k.nx.now h hσ hS
theorem s_cons (h1 : PS X st (lowS X.K W a)) (h2 : PSs X rest (lowS X.K W b)) : PSs X (st :: rest) (lowS X.K W (dSeq a b)) := pssi (pss_cons h1 h2) fun D σ H ⟨ρ, S, Dh, hσ, hS, h, k⟩ =>
  ⟨ρ, S, { Dh with nx := b Dh }, hσ, hS, h, k.nexts fun ρ' S' σ' H' q t r a => ⟨ρ', S', Dh, r, a, q, k.mono t⟩⟩
theorem s_one (h1 : PS X st (lowS X.K W a)) : PSs X [st] (lowS X.K W a) := pss_one h1
theorem s_pass : PS X (.Pass pos) (lowS X.K W dNext) := psi ps_pass fun D σ H ⟨ρ, S, Dh, hσ, hS, h, k⟩ => k.nx.now h hσ hS
def dBreak : DS := fun D ρ S => D.bk ρ S
def dCont : DS := fun D ρ S => D.ct ρ S
theorem s_break : PS X (.Break pos) (lowS X.K W dBreak) := psi ps_break fun D σ H ⟨ρ, S, Dh, hσ, hS, h, k⟩ => k.bk.now h hσ hS
theorem s_cont : PS X (.Continue pos) (lowS X.K W dCont) := psi ps_continue fun D σ H ⟨ρ, S, Dh, hσ, hS, h, k⟩ => k.ct.now h hσ hS
def dDrop (de : DE) : DS := fun D ρ S => de ρ S (fun _ S1 => D.nx ρ S1) (D.xd ρ)
theorem s_expr (he : PE X e (low X.K W de)) (hs : swapsWith e none pos.line X.env = pure false := by rfl) : PS X (.Expr e pos) (lowS X.K W (dDrop de)) := psi (ps_expr he hs) fun D σ H ⟨ρ, S, Dh, hσ, hS, h, k⟩ =>
  ⟨ρ, S, _, _, hσ, hS, h, fun d S1 v H1 q t r a => k.nx ρ S1 σ H1 q t (hσ.mono t) a, k.lx hσ⟩
def dRet (de : DE) : DS := fun D ρ S => de ρ S D.rt (D.xd ρ)
theorem s_ret (he : PE X e (low X.K W de)) : PS X (.Return (some e) pos) (lowS X.K W (dRet de)) := psi (ps_ret he) fun D σ H ⟨ρ, S, Dh, hσ, hS, h, k⟩ => ⟨ρ, S, _, _, hσ, hS, h, k.rt, k.lx hσ⟩
def dRetN : DS := fun D _ S => D.rt .non S
theorem s_retN : PS X (.Return none pos) (lowS X.K W dRetN) := psi ps_retN fun D σ H ⟨ρ, S, Dh, hσ, hS, h, k⟩ => k.rt.now h .non hS
def dIfS (c : DT) (t u : DS) : DS := fun D ρ S => c ρ S (fun b S1 => if b = true then t D ρ S1 else u D ρ S1) (D.xd ρ)
theorem s_if {sa sb : List Stmt} (hc : PT X c (lowT X.K W dt)) (ha : PSs X sa (lowS X.K W a)) (hb : PSs X sb (lowS X.K W b)) : PS X (.If c sa sb pos) (lowS X.K W (dIfS dt a b)) := psi (ps_if hc ha hb) fun D σ H ⟨ρ, S, Dh, hσ, hS, h, k⟩ =>
  ⟨ρ, S, _, _, hσ, hS, h, fun bb S1 H1 q t aa => by
    cases bb with
    | true => exact ⟨ρ, S1, Dh, hσ.mono t, aa, q, k.mono t⟩
    | false => exact ⟨ρ, S1, Dh, hσ.mono t, aa, q, k.mono t⟩, k.lx hσ⟩
def dNever : DS := fun _ _ _ => False
theorem s_never : PS X st (lowS X.K W dNever) := psi ps_never fun D σ H ⟨ρ, S, Dh, hσ, hS, h, k⟩ => h.elim

/-! targets -/
abbrev DG := Dv → Rho → Sto → (Rho → Sto → Prop) → Prop
abbrev DGs := List Dv → Rho → Sto → (Rho → Sto → Prop) → Prop
def lowG (K : PySem.W.Frag) (g : DG) : TG := fun v σ H Q => ∃ d ρ S Qh, Rep K H v d ∧ RepS K H σ ρ ∧ Abs K H S ∧ g d ρ S Qh ∧ LkG K H Qh Q
def lowGs (K : PySem.W.Frag) (g : DGs) : TGs := fun vs σ H Q => ∃ ds ρ S Qh, RepL K H vs ds ∧ RepS K H σ ρ ∧ Abs K H S ∧ g ds ρ S Qh ∧ LkG K H Qh Q
def gN (i : Nat) : DG := fun d ρ S Q => Q (ρ.set i (some d)) S
def gNilD : DGs := fun ds ρ S Q => match ds with | [] => Q ρ S | _ => False
def gConsD (g : DG) (r : DGs) : DGs := fun ds ρ S Q => match ds with | d :: t => g d ρ S fun ρ' S' => r t ρ' S' Q | [] => False
def gT (n : Nat) (g : DGs) : DG := fun d ρ S Q => match d with | .tup ds => ds.length = n ∧ g ds ρ S Q | _ => False
variable {tg : Expr} {es : List Expr} {g : DG} {gs : DGs}
theorem pgi {t t' : TG} (h : PG X e t) (i : ∀ v σ H Q, t' v σ H Q → t v σ H Q) : PG X e t' := ⟨fun pins s σ H v u Q I r q => h.run pins s σ H v u Q I r (i v σ H Q q)⟩
theorem pgsi {t t' : TGs} (h : PGs X es t) (i : ∀ v σ H Q, t' v σ H Q → t v σ H Q) : PGs X es t' := ⟨fun pins s σ H v u Q I r q => h.run pins s σ H v u Q I r (i v σ H Q q)⟩
theorem g_name (i : Nat) {x : Str} (hN : X.N.Nodup) (hi : X.N[i]? = some x := by rfl) (hx : Loc X.env.scope x := by first | exact Or.inl rfl | exact Or.inr rfl) (hf : X.fn x = true ∨ X.env.scope.names.lookup x = some .local := by first | exact .inl rfl | exact .inr rfl | assumption) :
    PG X (.Name x pos) (lowG X.K (gN i)) := pgi (pg_name hN hi hx hf) fun v σ H Q ⟨d, ρ, S, Qh, r, hσ, hS, h, k⟩ => k.now h (hσ.set i r) hS
theorem g_nil : PGs X [] (lowGs X.K gNilD) := pgsi pgs_nil fun vs σ H Q ⟨ds, ρ, S, Qh, r, hσ, hS, h, k⟩ => by
  cases ds with
  | nil => exact ⟨r.nil_i, k.now h hσ hS⟩
  | cons d t => exact h.elim
theorem g_cons (h1 : PG X e (lowG X.K g)) (h2 : PGs X es (lowGs X.K gs)) (hs : (assignEach (e :: es) X.env).map (·.2) = assign e X.env :: (assignEach es X.env).map (·.2) := by rfl) : PGs X (e :: es) (lowGs X.K (gConsD g gs)) :=
  pgsi (pgs_cons h1 h2 hs) fun vs σ H Q ⟨ds, ρ, S, Qh, r, hσ, hS, h, k⟩ => by
  cases ds with
  | nil => exact h.elim
  | cons d t =>
    obtain ⟨v, r', rfl, rv, rr⟩ := r.cons_i
    exact ⟨v, r', rfl, d, ρ, S, _, rv, hσ, hS, h, fun ρ' S' σ' H' q tt rs aa => ⟨t, ρ', S', Qh, rr.mono tt, rs, aa, q, k.mono tt⟩⟩
theorem g_tup {kk : Nat} {n : Nat} (hc : X.calm = true) (h : PGs X es (lowGs X.K gs)) (hn : (assignEach es X.env).length = n := by rfl) (hst : (assignEach es X.env).findIdx? (·.1) = none := by rfl) : PG X (.Tuple es kk pos) (lowG X.K (gT n gs)) :=
  pgi (pg_tup hc h hn hst) fun v σ H Q ⟨d, ρ, S, Qh, r, hσ, hS, h, k⟩ => by
  cases d with
  | tup ds =>
    obtain ⟨p, xs, rfl, hq, rl⟩ := r.i_tup
    exact ⟨p, xs, rfl, hq, by rw [rl.length]; exact h.1, ds, ρ, S, Qh, rl, hσ, hS, h.2, k⟩
  | _ => exact h.elim
/-- o[i] = v -/
abbrev RDS := Dv → Dv → Dv → Sto → (Sto → Prop) → Prop
def LRS (K : PySem.W.Frag) (r : TSet) (rd : RDS) : Prop := ∀ o i v H dO dI d S (Qh : Sto → Prop) (Q : Hp → Prop), Rep K H o dO → Rep K H i dI → Rep K H v d → Abs K H S → rd dO dI d S Qh → (∀ S' H', Qh S' → Tk K H H' → Abs K H' S' → Q H') → r o i v H Q
def gSubD (rd : RDS) (dO di : DE) : DG := fun d ρ S Q => dO ρ S (fun o S1 => di ρ S1 (fun i S2 => rd o i d S2 fun S3 => Q ρ S3) X0) X0
theorem lx0 {K : PySem.W.Frag} {σ : L2.St} {H : Hp} : Lx K W σ H X0 := fun _ _ _ _ q => q.elim
theorem g_sub {o i : Expr} {dO di : DE} {r : TSet} {rd : RDS} (hs : PSet X r) (hl : LRS X.K r rd) (ho : PE X o (low X.K W dO)) (hi : PE X i (low X.K W di))
    (ha : ∀ v, assign (.Subscript o i pos) X.env v = (do
      let ov ← holding [v] (eval o X.env)
      let iv ← holding [v, ov] (eval i X.env)
      standAt pos
      holding [v, ov, iv] (setItem ov iv v)
      release [v, ov, iv] []) := by intro _; rfl) : PG X (.Subscript o i pos) (lowG X.K (gSubD rd dO di)) := pgi (pg_sub ho hi hs ha) fun v σ H Q ⟨d, ρ, S, Qh, r, hσ, hS, h, k⟩ =>
  ⟨ρ, S, _, X0, hσ, hS, h, fun d1 S1 v1 H1 q1 t1 r1 a1 => ⟨ρ, S1, _, X0, hσ.mono t1, a1, q1, fun d2 S2 v2 H2 q2 t2 r2 a2 => hl v1 v2 v H2 d1 d2 d S2 _ _ (r1.mono t2) r2 (r.mono (t1.trans t2)) a2 q2 fun S3 H3 q3 t3 a3 =>
    k ρ S3 σ H3 q3 ((t1.trans t2).trans t3) (hσ.mono ((t1.trans t2).trans t3)) a3, lx0⟩, lx0⟩
def dAsg (de : DE) (g : DG) : DS := fun D ρ S => de ρ S (fun d S1 => g d ρ S1 D.nx) (D.xd ρ)
theorem s_asg (he : PE X e (low X.K W de)) (hg : PG X tg (lowG X.K g)) (hs : swapsWithSole [tg] e pos.line X.env = pure false := by rfl) (hw : swappedStores [tg] e X.env = pure none := by rfl)
    (h1 : (assignEach [tg] X.env).map (·.2) = [assign tg X.env] := by rfl) : PS X (.Assign [tg] e pos) (lowS X.K W (dAsg de g)) := psi (ps_asg he hg hs hw h1) fun D σ H ⟨ρ, S, Dh, hσ, hS, h, k⟩ =>
  ⟨ρ, S, _, _, hσ, hS, h, fun d S1 v H1 q t r a => ⟨d, ρ, S1, _, r, hσ.mono t, a, q, k.nx.mono t⟩, k.lx hσ⟩
theorem s_set (i : Nat) {x : Str} {pos' : Pos} (hN : X.N.Nodup) (he : PE X e (low X.K W de)) (hi : X.N[i]? = some x := by rfl) (hx : Loc X.env.scope x := by first | exact Or.inl rfl | exact Or.inr rfl) (hs : swapsWith e (some (.Name x pos')) pos.line X.env = pure false := by rfl)
    (hf : X.fn x = true ∨ X.env.scope.names.lookup x = some .local := by first | exact .inl rfl | exact .inr rfl | assumption) : PS X (.Assign [.Name x pos'] e pos) (lowS X.K W (dAsg de (gN i))) := psi (ps_set hN hi hx he hs hf) fun D σ H ⟨ρ, S, Dh, hσ, hS, h, k⟩ =>
  ⟨ρ, S, _, _, hσ, hS, h, fun d S1 v H1 q t r a => k.nx _ S1 _ H1 q t ((hσ.mono t).set i r) a, k.lx hσ⟩
/-- a, b = x, y (both local names, no cells) -/
def dPar (i j : Nat) (das : DA) : DS := fun D ρ S => das ρ S (fun ds S1 => match ds with | [x, y] => D.nx ((ρ.set i (some x)).set j (some y)) S1 | _ => False) (D.xd ρ)
theorem s_par (i j : Nat) {x y : Str} {ea eb : Expr} {das : DA} {px py pt : Pos} {kt k2 pt2} (hc : X.calm = true) (hN : X.N.Nodup) (ha : PA X [ea, eb] (lowA X.K W das))
    (hw : swappedStores [.Tuple [.Name x px, .Name y py] kt pt] (.Tuple [ea, eb] k2 pt2) X.env = pure (some [x, y])) (hi : X.N[i]? = some x := by rfl) (hj : X.N[j]? = some y := by rfl) (hij : i ≠ j := by decide)
    (hx : X.env.scope.names.lookup x = some .local := by rfl) (hy : X.env.scope.names.lookup y = some .local := by rfl)
    (hs : swapsWithSole [.Tuple [.Name x px, .Name y py] kt pt] (.Tuple [ea, eb] k2 pt2) pos.line X.env = pure false := by rfl) :
    PS X (.Assign [.Tuple [.Name x px, .Name y py] kt pt] (.Tuple [ea, eb] k2 pt2) pos) (lowS X.K W (dPar i j das)) := psi (ps_par hc hN hi hj hij hx hy ha hw hs) fun D σ H ⟨ρ, S, Dh, hσ, hS, h, k⟩ =>
  ⟨ρ, S, _, _, hσ, hS, h, fun ds S1 vs H1 q t r a => by
    match ds, q, r with
    | [d1, d2], q, r =>
      obtain ⟨v1, r1, rfl, h1, r⟩ := r.cons_i
      obtain ⟨v2, r2, rfl, h2, r⟩ := r.cons_i
      rw [r.nil_i]
      exact ⟨v1, v2, rfl, k.nx _ S1 _ H1 q t (((hσ.mono t).set i h1).set j h2) a⟩
    | [], q, _ => exact q.elim
    | [_], q, _ => exact q.elim
    | _ :: _ :: _ :: _, q, _ => exact q.elim, k.lx hσ⟩
/-- x op= e -/
def dAug (i : Nat) (rd : RD2) (de : DE) : DS := fun D ρ S => ∃ x, ρ[i]? = some (some x) ∧ de ρ S (fun y S1 => rd x y S1 fun z S2 => D.nx (ρ.set i (some z)) S2) (D.xd ρ)
theorem s_aug (i : Nat) {x : Str} {op : Operator} {r : R2} {rd : RD2} {pos' : Pos} (hN : X.N.Nodup) (ho : OpR X (inplaceOp op) r) (hl : LR2 X.K r rd) (he : PE X e (low X.K W de)) (hi : X.N[i]? = some x := by rfl) (hx : Loc X.env.scope x := by first | exact Or.inl rfl | exact Or.inr rfl)
    (hf : X.fn x = true ∨ X.env.scope.names.lookup x = some .local := by first | exact .inl rfl | exact .inr rfl | assumption) : PS X (.AugAssign (.Name x pos') op e pos) (lowS X.K W (dAug i rd de)) :=
  psi (ps_aug (ti := r) hN hi hx he (fun pins s σ H x y v u Q I r1 r2 h => ho pins s σ H x y v u Q I r1 r2 h) hf) fun D σ H ⟨ρ, S, Dh, hσ, hS, ⟨x, ex, h⟩, k⟩ => by
  obtain ⟨v, ev, rv⟩ := hσ.at_ i x ex
  exact ⟨v, ev, ρ, S, _, _, hσ, hS, h, fun d S1 v1 H1 q t r1 a => hl v v1 H1 x d S1 _ _ (rv.mono t) r1 a q fun d2 S2 v2 H2 q2 t2 r2 a2 => k.nx _ S2 _ H2 q2 (t.trans t2) ((hσ.mono (t.trans t2)).set i r2) a2, k.lx hσ⟩
end

/-! loops -/
abbrev DI := Rho → Sto → (List Dv → (Sto → Prop) → Sto → Prop) → XD → Prop
structure ItD (K : PySem.W.Frag) (H0 : Hp) (J : It) (items : List Dv) (stay : Sto → Prop) : Prop where
  go : ∀ i H S x, Tk K H0 H → Abs K H S → stay S → items[i]? = some x → J.go i H ∧ ∀ v H', J.yld i H v H' → Tk K H H' ∧ Rep K H' v x ∧ Abs K H' S
  stop : ∀ H S, Tk K H0 H → Abs K H S → stay S → J.stop items.length H
def LkI (K : PySem.W.Frag) (H : Hp) (Rh : List Dv → (Sto → Prop) → Sto → Prop) (R : It → Hp → Prop) : Prop := ∀ items stay S' J H', Rh items stay S' → Tk K H H' → Abs K H' S' → ItD K H' J items stay → R J H'
theorem LkI.mono {K : PySem.W.Frag} {H H1 : Hp} {Rh : List Dv → (Sto → Prop) → Sto → Prop} {R : It → Hp → Prop} (k : LkI K H Rh R) (t : Tk K H H1) : LkI K H1 Rh R := fun i s S J H' q t' => k i s S J H' q (t.trans t')
def lowI (K : PySem.W.Frag) (W : WX) (di : DI) : TI := fun σ H R => ∃ ρ S Rh Xh, RepS K H σ ρ ∧ Abs K H S ∧ di ρ S Rh Xh ∧ LkI K H Rh R ∧ Lx K W σ H Xh
def ForGo (g : DG) (tb : DS) (D : DEnds) (ρ : Rho) (items : List Dv) (stay : Sto → Prop) (S1 : Sto) : Prop := ∃ Wv : Nat → Rho → Sto → Prop, Wv 0 ρ S1 ∧ (∀ i ρ S, i ≤ items.length → Wv i ρ S → stay S) ∧
  (∀ i x ρ S, items[i]? = some x → Wv i ρ S → g x ρ S fun ρ2 S2 => tb { D with nx := Wv (i + 1), ct := Wv (i + 1), bk := D.nx } ρ2 S2) ∧ ∀ ρ S, Wv items.length ρ S → D.nx ρ S
def dFor (di : DI) (g : DG) (tb : DS) : DS := fun D ρ S => di ρ S (fun items stay S1 => ForGo g tb D ρ items stay S1) (D.xd ρ)
section
variable {X : Cx} {W : WX} {tg iter c : Expr} {body : List Stmt} {di : DI} {g : DG} {tb : DS} {dt : DT} {pos : Pos}
theorem s_for (hp : PassesOwn (model X.prog X.w) X.A X.env X.xe) (hc : X.calm = true) (hi : PI X tg iter (lowI X.K W di)) (hg : PG X tg (lowG X.K g)) (hb : PSs X body (lowS X.K W tb))
    (hs : ∀ x, foldedSetIterable iter X.env x = pure x := by intro _; rfl) : PS X (.For tg iter body [] pos) (lowS X.K W (dFor di g tb)) := psi (ps_for hp hc hi hg hb hs) fun D σ H ⟨ρ, S, Dh, hσ, hS, h, k⟩ => by
  refine ⟨ρ, S, _, _, hσ, hS, h, fun items stay S1 J H1 q t1 a1 it => ?_, k.lx hσ⟩
  obtain ⟨Wv, w0, st, step, done⟩ := q
  refine ⟨fun i m σ' H' => m = items.length - i ∧ i ≤ items.length ∧ Tk X.K H1 H' ∧ ∃ ρ' S', RepS X.K H' σ' ρ' ∧ Abs X.K H' S' ∧ Wv i ρ' S', ⟨_, rfl, Nat.zero_le _, Tk.refl _, ρ, S1, hσ.mono t1, a1, w0⟩, ?_⟩
  rintro i m σ' H' ⟨rfl, hi, t2, ρ', S', hσ', a2, w⟩
  by_cases hlt : i < items.length
  · obtain ⟨g1, g2⟩ := it.go i H' S' items[i] t2 a2 (st i ρ' S' hi w) (by simp [hlt])
    refine .inr ⟨g1, fun σ' H' => Tk X.K H1 H' ∧ ∃ ρ' S', RepS X.K H' σ' ρ' ∧ Abs X.K H' S' ∧ Wv (i + 1) ρ' S', fun σ3 H3 ⟨t3, z⟩ => ⟨items.length - (i + 1), by omega, rfl, hlt, t3, z⟩, fun x H3 y => ?_⟩
    obtain ⟨t3, r3, a3⟩ := g2 x H3 y
    refine ⟨items[i], ρ', S', _, r3, hσ'.mono t3, a3, step i _ ρ' S' (by simp [hlt]) w, fun ρ4 S4 σ4 H4 q4 t4 r4 a4 => ⟨ρ4, S4, _, r4, a4, q4, ((((k.mono t1).mono t2).mono t3).mono t4).loop ?_⟩⟩
    exact fun ρ5 S5 σ5 H5 q5 t5 r5 a5 => ⟨((t2.trans t3).trans t4).trans t5, ρ5, S5, r5, a5, q5⟩
  · have e : i = items.length := by omega
    subst e
    exact .inl ⟨it.stop H' S' t2 a2 (st _ ρ' S' hi w), k.nx ρ' S' σ' H' (done ρ' S' w) (t1.trans t2) hσ' a2⟩
def dWhile (c : DT) (tb : DS) : DS := fun D ρ S => ∃ Wv : Nat → Rho → Sto → Prop, (∃ m, Wv m ρ S) ∧ ∀ m ρ S, Wv m ρ S →
  c ρ S (fun b S1 => if b = true then tb { D with nx := fun ρ' S' => ∃ m', m' < m ∧ Wv m' ρ' S', ct := fun ρ' S' => ∃ m', m' < m ∧ Wv m' ρ' S', bk := D.nx } ρ S1 else D.nx ρ S1) (D.xd ρ)
theorem s_while (hp : PassesOwn (model X.prog X.w) X.A X.env X.xe) (hc : PT X c (lowT X.K W dt)) (hb : PSs X body (lowS X.K W tb)) : PS X (.While c body [] pos) (lowS X.K W (dWhile dt tb)) := psi (ps_while hp hc hb) fun D σ H ⟨ρ, S, Dh, hσ, hS, h, k⟩ => by
  obtain ⟨Wv, ⟨m0, w0⟩, step⟩ := h
  refine ⟨fun m σ' H' => Tk X.K H H' ∧ ∃ ρ' S', RepS X.K H' σ' ρ' ∧ Abs X.K H' S' ∧ Wv m ρ' S', ⟨m0, Tk.refl _, ρ, S, hσ, hS, w0⟩, ?_⟩
  rintro m σ' H' ⟨t, ρ', S', hσ', a', w⟩
  refine ⟨ρ', S', _, _, hσ', a', step m ρ' S' w, fun b S1 H1 q t1 a1 => ?_, (k.mono t).lx hσ'⟩
  cases b with
  | true =>
    refine iteT ⟨fun σ2 H2 => Tk X.K H H2 ∧ ∃ m', m' < m ∧ ∃ ρ' S', RepS X.K H2 σ2 ρ' ∧ Abs X.K H2 S' ∧ Wv m' ρ' S', fun σ2 H2 ⟨t2, m', lt, z⟩ => ⟨m', lt, t2, z⟩, ρ', S1, _, hσ'.mono t1, a1, q, ((k.mono t).mono t1).loop ?_⟩
    exact fun ρ5 S5 σ5 H5 ⟨m', lt, q5⟩ t5 r5 a5 => ⟨(t.trans t1).trans t5, m', lt, ρ5, S5, r5, a5, q5⟩
  | false => exact iteF ((k.mono t).nx ρ' S1 σ' H1 q t1 (hσ'.mono t1) a1)

/-! what is walked -/
theorem pii {wi wi' : TI} (h : PI X tg iter wi) (i : ∀ σ H R, wi' σ H R → wi σ H R) : PI X tg iter wi' := ⟨fun pins s σ H R I q => h.run pins s σ H R I (i σ H R q)⟩
/-- over a list or a tuple -/
def iSeq (de : DE) : DI := fun ρ S R X => de ρ S (fun d S1 => match d with
  | .tup ds => R ds (fun _ => True) S1
  | .rol ds => R ds (fun _ => True) S1
  | .ref a => ∃ ds, S1 a = some (.lst ds) ∧ R ds (fun S => S a = some (.lst ds)) S1
  | _ => False) X
theorem sqT_inj {K : PySem.W.Frag} {H : Hp} {a : Addr} {xs ys : List V} {I : Prop} (h : SqT K H a xs) (hx : ∀ zs, SqT K H a zs → zs = xs) (g : SqT K H a ys) : ys = xs := hx ys g
/-- the tuple at a, walked -/
theorem it_tup {K : PySem.W.Frag} {H0 : Hp} {a : Addr} {xs : List V} {ds : List Dv} (h : SqT K H0 a xs) (r : RepL K H0 xs ds) : ItD K H0 (Itt K a) ds (fun _ => True) := by
  refine ⟨fun i H S x t ha _ hx => ?_, fun H S t ha _ => ⟨xs, t.t _ _ h, by rw [r.length]; exact Nat.le_refl _⟩⟩
  obtain ⟨v, hv, rv⟩ := r.get hx
  refine ⟨⟨xs, v, t.t _ _ h, hv⟩, fun v' H' ⟨e, y⟩ => ?_⟩
  subst e
  have e2 := y xs (t.t _ _ h)
  rw [hv] at e2
  cases e2
  exact ⟨Tk.refl _, rv.mono t, ha⟩
theorem it_rol {K : PySem.W.Frag} {H0 : Hp} {a : Addr} {xs : List V} {ds : List Dv} (h : CL K H0 a xs) (r : RepL K H0 xs ds) : ItD K H0 (Itl K a) ds (fun _ => True) := by
  refine ⟨fun i H S x t ha _ hx => ?_, fun H S t ha _ => ⟨xs, (t.c _ _ h).sq, by rw [r.length]; exact Nat.le_refl _⟩⟩
  obtain ⟨v, hv, rv⟩ := r.get hx
  refine ⟨⟨xs, v, (t.c _ _ h).sq, hv⟩, fun v' H' ⟨e, y⟩ => ?_⟩
  subst e
  have e2 := y xs (t.c _ _ h).sq
  rw [hv] at e2
  cases e2
  exact ⟨Tk.refl _, rv.mono t, ha⟩
theorem it_lst {K : PySem.W.Frag} {H0 : Hp} {a : Addr} {ds : List Dv} : ItD K H0 (Itl K a) ds (fun S => S a = some (.lst ds)) := by
  refine ⟨fun i H S x t ha st hx => ?_, fun H S t ha st => ?_⟩
  · obtain ⟨xs, h1, h2⟩ := ha a _ st
    obtain ⟨v, hv, rv⟩ := h2.get hx
    refine ⟨⟨xs, v, .inl (.inl h1), hv⟩, fun v' H' ⟨e, y⟩ => ?_⟩
    subst e
    have e2 := y xs (.inl (.inl h1))
    rw [hv] at e2
    cases e2
    exact ⟨Tk.refl _, rv, ha⟩
  · obtain ⟨xs, h1, h2⟩ := ha a _ st
    exact ⟨xs, .inl (.inl h1), by rw [h2.length]; exact Nat.le_refl _⟩
def iTupD (de : DE) : DI := fun ρ S R X => de ρ S (fun d S1 => match d with | .tup ds => R ds (fun _ => True) S1 | _ => False) X
theorem i_tup {e : Expr} {de : DE} (he : PE X e (low X.K W de)) : PI X tg e (lowI X.K W (iTupD de)) := pii (pi_tup he) fun σ H R ⟨ρ, S, Rh, Xh, hσ, hS, h, k, x⟩ =>
  ⟨ρ, S, _, Xh, hσ, hS, h, fun d S1 v H1 q t r a => by
    cases d with
    | tup ds =>
      obtain ⟨p, xs, rfl, hq, rl⟩ := r.i_tup
      exact ⟨p, rfl, ⟨xs, hq⟩, k ds _ S1 _ H1 q t a (it_tup hq rl)⟩
    | _ => exact q.elim, x⟩
def iLstD (de : DE) : DI := fun ρ S R X => de ρ S (fun d S1 => match d with
  | .rol ds => R ds (fun _ => True) S1
  | .ref a => match S1 a with | some (.lst ds) => R ds (fun S => S a = some (.lst ds)) S1 | _ => False
  | _ => False) X
theorem i_lst {e : Expr} {de : DE} (he : PE X e (low X.K W de)) : PI X tg e (lowI X.K W (iLstD de)) := pii (pi_list he) fun σ H R ⟨ρ, S, Rh, Xh, hσ, hS, h, k, x⟩ =>
  ⟨ρ, S, _, Xh, hσ, hS, h, fun d S1 v H1 q t r a => by
    cases d with
    | rol ds =>
      obtain ⟨p, xs, rfl, hq, rl⟩ := r.i_rol
      exact ⟨p, rfl, ⟨xs, hq.sq⟩, k ds _ S1 _ H1 q t a (it_rol hq rl)⟩
    | ref p =>
      have q : (match S1 p with | some (.lst ds) => Rh ds (fun S => S p = some (.lst ds)) S1 | _ => False) := q
      cases e : S1 p with
      | none => rw [e] at q; exact q.elim
      | some m =>
        rw [e] at q
        cases m with
        | lst ds =>
          obtain ⟨xs, h1, h2⟩ := a p _ e
          exact ⟨p, r.i_ref, ⟨xs, .inl (.inl h1)⟩, k ds _ S1 _ H1 q t a it_lst⟩
        | _ => exact q.elim
    | _ => exact q.elim, x⟩
/-- over a list, a tuple, a text: by the value -/
def iSeqD (de : DE) : DI := fun ρ S R X => de ρ S (fun d S1 => match d with
  | .tup ds => R ds (fun _ => True) S1
  | .rol ds => R ds (fun _ => True) S1
  | .ref a => match S1 a with | some (.lst ds) => R ds (fun S => S a = some (.lst ds)) S1 | _ => False
  | _ => False) X
theorem i_seq {e : Expr} {de : DE} (he : PE X e (low X.K W de)) : PI X tg e (lowI X.K W (iSeqD de)) := by
  refine ⟨fun pins s σ H R I ⟨ρ, S, Rh, Xh, hσ, hS, h, k, x⟩ => ?_⟩
  have lst : ∀ {a : Addr} {xs : List V} {H1 : Hp} {s1 : Shared}, Inv X pins σ H1 s1 → SqL X.K H1 a xs → R (Itl X.K a) H1 → wpAny (model X.prog X.w) X.A (pyIter (.ref a)) (PIE X pins σ tg R) X.xe s1 := by
    intro a xs H1 s1 I1 hq q
    obtain ⟨its, rv, p, hz⟩ := I1.list hq
    refine wpAny_pyIter_list p.isList ?_
    refine ⟨s1.heap.objs.size, [s1.heap.objs.size], _, _, H1, rfl, I1.kept (t' := s1.toks) fun b o e => Heap.get?_push_of_some _ e, turn_list a _, ⟨_, Heap.get?_push_size _ rfl, rfl, rfl⟩, fun b hb => ?_, q⟩
    have e : b = s1.heap.objs.size := by simpa using hb
    subst e
    exact I1.fpOk (Nat.le_refl _) (I1.hok.fresh (Nat.le_refl _))
  have tup : ∀ {a : Addr} {xs : List V} {H1 : Hp} {s1 : Shared}, Inv X pins σ H1 s1 → SqT X.K H1 a xs → R (Itt X.K a) H1 → wpAny (model X.prog X.w) X.A (pyIter (.ref a)) (PIE X pins σ tg R) X.xe s1 := by
    intro a xs H1 s1 I1 hq q
    obtain ⟨its, rv, p, hz⟩ := I1.tuple hq
    refine wpAny_pyIter_tuple (show s1.heap.IsTuple a its.toArray from p) ?_
    refine ⟨s1.heap.objs.size, [s1.heap.objs.size], _, _, H1, rfl, I1.kept (t' := s1.toks) fun b o e => Heap.get?_push_of_some _ e, turn_tuple a _, ⟨_, Heap.get?_push_size _ rfl, rfl, rfl⟩, fun b hb => ?_, q⟩
    have e : b = s1.heap.objs.size := by simpa using hb
    subst e
    exact I1.fpOk (Nat.le_refl _) (I1.hok.fresh (Nat.le_refl _))
  refine thn (he.run pins s σ H (fun v H1 => ∃ a, v = .ref a ∧ ((∃ xs, SqL X.K H1 a xs ∧ R (Itl X.K a) H1) ∨ (∃ xs, SqT X.K H1 a xs ∧ R (Itt X.K a) H1))) I ⟨ρ, S, _, Xh, hσ, hS, h, fun d S1 v H1 q t r a => ?_, x⟩) fun v s1 ⟨y, H1, I1, r1, a, e, q1⟩ => ?_
  · cases d with
    | tup ds =>
      obtain ⟨p, xs, rfl, hq, rl⟩ := r.i_tup
      exact ⟨p, rfl, .inr ⟨xs, hq, k ds _ S1 _ H1 q t a (it_tup hq rl)⟩⟩
    | rol ds =>
      obtain ⟨p, xs, rfl, hq, rl⟩ := r.i_rol
      exact ⟨p, rfl, .inl ⟨xs, hq.sq, k ds _ S1 _ H1 q t a (it_rol hq rl)⟩⟩
    | ref p =>
      have q : (match S1 p with | some (.lst ds) => Rh ds (fun S => S p = some (.lst ds)) S1 | _ => False) := q
      cases e : S1 p with
      | none => rw [e] at q; exact q.elim
      | some m =>
        rw [e] at q
        cases m with
        | lst ds =>
          obtain ⟨xs, h1, h2⟩ := a p _ e
          exact ⟨p, r.i_ref, .inl ⟨xs, .inl (.inl h1), k ds _ S1 _ H1 q t a it_lst⟩⟩
        | _ => exact q.elim
    | _ => exact q.elim
  · subst e
    cases r1
    rcases q1 with ⟨xs, hq, q⟩ | ⟨xs, hq, q⟩
    · exact lst I1 hq q
    · exact tup I1 hq q
/-- range(n), range(a, b), range(a, b, c) -/
def rangeL (lo : Int) (n : Nat) (c : Int) : List Dv := (List.range n).map fun (i : Nat) => Dv.int (lo + (i : Int) * c)
theorem rangeL_get {lo c : Int} {n i : Nat} {x : Dv} (h : (rangeL lo n c)[i]? = some x) : i < n ∧ x = .int (lo + (i : Int) * c) := by
  unfold rangeL at h
  rw [List.getElem?_map, Option.map_eq_some_iff] at h
  obtain ⟨j, h1, h2⟩ := h
  rw [List.getElem?_eq_some_iff] at h1
  obtain ⟨h3, h4⟩ := h1
  rw [List.getElem_range] at h4
  subst h4
  exact ⟨by simpa using h3, h2.symm⟩
theorem rangeL_len {lo c : Int} {n : Nat} : (rangeL lo n c).length = n := by unfold rangeL; simp
theorem it_rng {K : PySem.W.Frag} {H0 : Hp} {lo : Int} {n : Nat} : ItD K H0 (Itr lo n) (rangeL lo n 1) (fun _ => True) := by
  refine ⟨fun i H S x t ha st hx => ?_, fun H S t ha st => by rw [rangeL_len]; exact Nat.le_refl _⟩
  obtain ⟨h1, rfl⟩ := rangeL_get hx
  refine ⟨h1, fun v' H' ⟨e, y⟩ => ?_⟩
  subst e y
  exact ⟨Tk.refl _, by rw [Int.mul_one]; exact .int _, ha⟩
theorem it_rngC {K : PySem.W.Frag} {H0 : Hp} {lo c : Int} {n : Nat} : ItD K H0 (Itc lo c n) (rangeL lo n c) (fun _ => True) := by
  refine ⟨fun i H S x t ha st hx => ?_, fun H S t ha st => by rw [rangeL_len]; exact Nat.le_refl _⟩
  obtain ⟨h1, rfl⟩ := rangeL_get hx
  refine ⟨h1, fun v' H' ⟨e, y⟩ => ?_⟩
  subst e y
  exact ⟨Tk.refl _, .int _, ha⟩
def iR1 (das : DA) : DI := fun ρ S R X => das ρ S (fun ds S1 => match ds with | [.int j] => j < 2 ^ 62 ∧ -(2 ^ 62) ≤ j ∧ R (rangeL 0 j.toNat 1) (fun _ => True) S1 | _ => False) X
def iR2 (das : DA) : DI := fun ρ S R X => das ρ S (fun ds S1 => match ds with | [.int i, .int j] => (-(2 ^ 62) ≤ i ∧ i < 2 ^ 62 ∧ -(2 ^ 62) ≤ j ∧ j < 2 ^ 62) ∧ R (rangeL i (j - i).toNat 1) (fun _ => True) S1 | _ => False) X
def iR3 (das : DA) : DI := fun ρ S R X => das ρ S (fun ds S1 => match ds with | [.int i, .int j, .int c] => ∃ n, RgC i j c n ∧ R (rangeL i n c) (fun _ => True) S1 | _ => False) X
theorem i_r1 {a : Expr} {p : Pos} {das : DA} (hm : X.mg "range" = none) (ha : PA X [a] (lowA X.K W das)) (hg : Gl X "range" := by rfl) (hs : starEach [a] X.env = [(false, eval a X.env)] := by rfl) : PI X tg (.Call (.Name "range" p) [a] [] pos) (lowI X.K W (iR1 das)) :=
  pii (pi_range1 hg hm ha hs) fun σ H R ⟨ρ, S, Rh, Xh, hσ, hS, h, k, x⟩ => ⟨ρ, S, _, Xh, hσ, hS, h, fun ds S1 vs H1 q t r a => by
    match ds, q, r with
    | [.int j], q, r =>
      obtain ⟨v1, r1, rfl, h1, r⟩ := r.cons_i
      rw [r.nil_i, h1.i_int]
      exact ⟨j, rfl, q.2.1, q.1, k _ _ S1 _ H1 q.2.2 t a it_rng⟩, x⟩
theorem i_r2 {a b : Expr} {p : Pos} {das : DA} (hm : X.mg "range" = none) (ha : PA X [a, b] (lowA X.K W das)) (hg : Gl X "range" := by rfl) (hs : starEach [a, b] X.env = [(false, eval a X.env), (false, eval b X.env)] := by rfl) (hs2 : starEach [b] X.env = [(false, eval b X.env)] := by rfl) :
    PI X tg (.Call (.Name "range" p) [a, b] [] pos) (lowI X.K W (iR2 das)) :=
  pii (pi_range2 hg hm ha hs hs2) fun σ H R ⟨ρ, S, Rh, Xh, hσ, hS, h, k, x⟩ => ⟨ρ, S, _, Xh, hσ, hS, h, fun ds S1 vs H1 q t r a => by
    match ds, q, r with
    | [.int i, .int j], q, r =>
      obtain ⟨v1, r1, rfl, h1, r⟩ := r.cons_i
      obtain ⟨v2, r2, rfl, h2, r⟩ := r.cons_i
      rw [r.nil_i, h1.i_int, h2.i_int]
      exact ⟨i, j, rfl, q.1, k _ _ S1 _ H1 q.2 t a it_rng⟩, x⟩
theorem i_r3 {a b c : Expr} {p : Pos} {das : DA} (hm : X.mg "range" = none) (ha : PA X [a, b, c] (lowA X.K W das)) (hg : Gl X "range" := by rfl) (h0 : starEach [a, b, c] X.env = (false, eval a X.env) :: starEach [b, c] X.env := by rfl) (h1 : (backTo pos (starEach [b, c] X.env)).any (·.1) = false := by rfl) :
    PI X tg (.Call (.Name "range" p) [a, b, c] [] pos) (lowI X.K W (iR3 das)) :=
  pii (pi_range3 hg hm ha h0 h1) fun σ H R ⟨ρ, S, Rh, Xh, hσ, hS, h, k, x⟩ => ⟨ρ, S, _, Xh, hσ, hS, h, fun ds S1 vs H1 q t r a => by
    match ds, q, r with
    | [.int i, .int j, .int c], q, r =>
      obtain ⟨v1, r1, rfl, h1, r⟩ := r.cons_i
      obtain ⟨v2, r2, rfl, h2, r⟩ := r.cons_i
      obtain ⟨v3, r3, rfl, h3, r⟩ := r.cons_i
      rw [r.nil_i, h1.i_int, h2.i_int, h3.i_int]
      obtain ⟨n, g, q⟩ := q
      exact ⟨i, j, c, n, rfl, g, k _ _ S1 _ H1 q t a it_rngC⟩, x⟩
def iStrD (de : DE) : DI := fun ρ S R X => de ρ S (fun d S1 => match d with | .str x => R (x.cps.toList.map fun c => Dv.str ⟨#[c]⟩) (fun _ => True) S1 | _ => False) X
theorem i_str {e : Expr} {de : DE} (he : PE X e (low X.K W de)) : PI X tg e (lowI X.K W (iStrD de)) := pii (pi_str he) fun σ H R ⟨ρ, S, Rh, Xh, hσ, hS, h, k, x⟩ =>
  ⟨ρ, S, _, Xh, hσ, hS, h, fun d S1 v H1 q t r a => by
    cases d with
    | str z =>
      refine ⟨z, r.i_str, k _ _ S1 _ H1 q t a ⟨fun i H S x t ha st hx => ?_, fun H S t ha st => by simp [Its]⟩⟩
      rw [List.getElem?_map, Option.map_eq_some_iff] at hx
      obtain ⟨c, h1, rfl⟩ := hx
      rw [Array.getElem?_toList] at h1
      refine ⟨(Array.getElem?_eq_some_iff.mp h1).1, fun v' H' ⟨e, c', h2, e2⟩ => ?_⟩
      subst e e2
      rw [h1] at h2
      cases h2
      exact ⟨Tk.refl _, .str _, ha⟩
    | _ => exact q.elim, x⟩
end

/-! comprehensions -/
/-- a target of names alone, put back behind -/
def NG (K : PySem.W.Frag) (g : TG) (dg : DG) (vs : List Nat) : Prop := ∀ v d σ H ρ S Qh (Q : L2.St → Hp → Prop), Rep K H v d → RepS K H σ ρ → Abs K H S → dg d ρ S Qh → (∀ ρ' S' σ' H', Qh ρ' S' → Tk K H H' → RepS K H' σ' ρ' → Abs K H' S' → L2.wipe σ' vs = L2.wipe σ vs → Q σ' H') → g v σ H Q
def NGs (K : PySem.W.Frag) (g : TGs) (dg : DGs) (vs : List Nat) : Prop := ∀ xs ds σ H ρ S Qh (Q : L2.St → Hp → Prop), RepL K H xs ds → RepS K H σ ρ → Abs K H S → dg ds ρ S Qh → (∀ ρ' S' σ' H', Qh ρ' S' → Tk K H H' → RepS K H' σ' ρ' → Abs K H' S' → L2.wipe σ' vs = L2.wipe σ vs → Q σ' H') → g xs σ H Q
theorem wipe_set (σ : L2.St) (i : Nat) (x : Option V) : ∀ vs : List Nat, i ∈ vs → L2.wipe (σ.set i x) vs = L2.wipe σ vs
  | [], h => by cases h
  | v :: vs, h => by
    have wc : ∀ (l : List Nat) (τ : L2.St), L2.wipe (τ.set i x) l = if i ∈ l then L2.wipe τ l else (L2.wipe τ l).set i x := by
      intro l
      induction l with
      | nil => intro τ; simp [L2.wipe]
      | cons w l ih =>
        intro τ
        unfold L2.wipe
        rw [ih τ]
        by_cases hm : i ∈ l
        · simp [hm]
        · by_cases hw : i = w
          · subst hw; simp [hm, List.set_set]
          · simp [hm, hw, List.set_comm _ _ hw]
    rw [wc (v :: vs) σ, if_pos h]
theorem ng_name {K : PySem.W.Frag} {i : Nat} {vs : List Nat} (h : i ∈ vs) : NG K (gName i) (gN i) vs := fun v d σ H ρ S Qh Q r hσ hS q k => k _ S _ H q (Tk.refl H) (hσ.set i r) hS (wipe_set σ i _ vs h)
theorem ngs_nil {K : PySem.W.Frag} {vs : List Nat} : NGs K gNil gNilD vs := fun xs ds σ H ρ S Qh Q r hσ hS q k => by
  cases ds with
  | nil => exact ⟨r.nil_i, k _ S _ H q (Tk.refl H) hσ hS rfl⟩
  | cons d t => exact q.elim
theorem ngs_cons {K : PySem.W.Frag} {vs : List Nat} {g : TG} {dg : DG} {gs : TGs} {dgs : DGs} (h : NG K g dg vs) (hs : NGs K gs dgs vs) : NGs K (gCons g gs) (gConsD dg dgs) vs := fun xs ds σ H ρ S Qh Q r hσ hS q k => by
  cases ds with
  | nil => exact q.elim
  | cons d t =>
    obtain ⟨v, r', rfl, rv, rr⟩ := r.cons_i
    refine ⟨v, r', rfl, h v d σ H ρ S _ _ rv hσ hS q fun ρ1 S1 σ1 H1 q1 t1 r1 a1 e1 => hs r' t σ1 H1 ρ1 S1 Qh Q (rr.mono t1) r1 a1 q1 fun ρ2 S2 σ2 H2 q2 t2 r2 a2 e2 => k ρ2 S2 σ2 H2 q2 (t1.trans t2) r2 a2 (e2.trans e1)⟩
theorem ng_tup {K : PySem.W.Frag} {vs : List Nat} {gs : TGs} {dgs : DGs} {n : Nat} (hs : NGs K gs dgs vs) : NG K (gTup K n gs) (gT n dgs) vs := fun v d σ H ρ S Qh Q r hσ hS q k => by
  cases d with
  | tup ds =>
    obtain ⟨p, xs, rfl, hq, rl⟩ := r.i_tup
    exact ⟨p, xs, rfl, hq, by rw [rl.length]; exact q.1, hs xs ds σ H ρ S Qh Q rl hσ hS q.2 k⟩
  | _ => exact q.elim
def dYes : DT := fun _ S Q _ => Q true S
theorem c_nil {X : Cx} {W : WX} : PTs X [] (lowT X.K W dYes) := ⟨fun pins s σ H Q I ⟨ρ, S, Qh, Xh, hσ, hS, h, k, x⟩ => pts_nil.run pins s σ H Q I (k true S H h (Tk.refl H) hS)⟩
theorem c_one {X : Cx} {W : WX} {c : Expr} {dt : DT} (h : PT X c (lowT X.K W dt)) : PTs X [c] (lowT X.K W dt) := pts_one h
def LcGo (g : DG) (tt : DT) (te : DE) (vs : List Nat) (ρ : Rho) (Q : QD) (items : List Dv) (stay : Sto → Prop) (S1 : Sto) : Prop := ∀ p, S1 p = none → ∃ Wv : Nat → Sto → Prop, Wv 0 (put S1 p (.lst [])) ∧ (∀ i S, i ≤ items.length → Wv i S → stay S) ∧
  (∀ i x S, items[i]? = some x → Wv i S → g x (wipeD ρ vs) S fun ρ2 S2 => tt ρ2 S2 (fun b S3 => if b = true then te ρ2 S3 (fun y S4 => ∃ acc, S4 p = some (.lst acc) ∧ acc.length < sizeLine ∧ Wv (i + 1) (put S4 p (.lst (acc ++ [y])))) X0 else Wv (i + 1) S3) X0) ∧
  ∀ S, Wv items.length S → Q (.ref p) S
def dLc (di : DI) (g : DG) (tt : DT) (te : DE) (vs : List Nat) : DE := fun ρ S Q X => di ρ S (fun items stay S1 => LcGo g tt te vs ρ Q items stay S1) X
section
variable {X : Cx} {W : WX} {tg iter elt : Expr} {ifs : List Expr} {di : DI} {g : TG} {dg : DG} {dt : DT} {de : DE} {scope : Scope} {own : List (Str × Nat)} {pos spos : Pos}
theorem low_lc {K : PySem.W.Frag} {vs : List Nat} (ng : NG K g dg vs) : ∀ σ H Q, low K W (dLc di dg dt de vs) σ H Q → tLc (lowI K W di) g (lowT K W0 dt) (low K W0 de) vs σ H Q := fun σ H Q ⟨ρ, S, Qh, Xh, hσ, hS, h, k, x⟩ => by
  refine ⟨ρ, S, _, Xh, hσ, hS, h, fun items stay S1 J H1 q t1 a1 it p hp => ?_, x⟩
  obtain ⟨Wv, w0, st, step, done⟩ := q p (a1.free hp)
  refine ⟨fun i m H' => m = items.length - i ∧ i ≤ items.length ∧ Tk K H1 H' ∧ ∃ S', Abs K H' S' ∧ Wv i S', ⟨_, rfl, Nat.zero_le _, Tk.new hp, _, a1.new hp (.mlst upd_same .nil), w0⟩, ?_⟩
  rintro i m H' ⟨rfl, hi, t2, S', a2, w⟩
  by_cases hlt : i < items.length
  · obtain ⟨g1, g2⟩ := it.go i H' S' items[i] t2 a2 (st i S' hi w) (by simp [hlt])
    refine .inr ⟨g1, fun H' => Tk K H1 H' ∧ ∃ S', Abs K H' S' ∧ Wv (i + 1) S', fun H3 ⟨t3, z⟩ => ⟨items.length - (i + 1), by omega, rfl, hlt, t3, z⟩, fun v H3 y => ?_⟩
    obtain ⟨t3, r3, a3⟩ := g2 v H3 y
    have hw : RepS K H3 (L2.wipe σ vs) (wipeD ρ vs) := (hσ.mono (t1.trans (t2.trans t3))).wipe vs
    refine ng v items[i] (L2.wipe σ vs) H3 (wipeD ρ vs) S' _ _ r3 hw a3 (step i _ S' (by simp [hlt]) w) fun ρ4 S4 σ4 H4 q4 t4 r4 a4 e4 => ⟨e4.trans ?_, ρ4, S4, _, X0, r4, a4, q4, fun b S5 H5 q5 t5 a5 => ?_, lx0⟩
    · clear e4 r4 a4 q4 step st done it k x w hw
      have idem : ∀ (l : List Nat) (τ : L2.St) (j : Nat), j ∈ l → (L2.wipe τ l).set j none = L2.wipe τ l := by
        intro l
        induction l with
        | nil => intro τ j h; cases h
        | cons w l ih =>
          intro τ j h
          unfold L2.wipe
          by_cases hj : j = w
          · subst hj; rw [List.set_set]
          · rw [List.set_comm _ _ (Ne.symm hj), ih τ j ((List.mem_cons.mp h).resolve_left hj)]
      have all : ∀ (l m : List Nat) (τ : L2.St), (∀ j ∈ l, j ∈ m) → L2.wipe (L2.wipe τ m) l = L2.wipe τ m := by
        intro l
        induction l with
        | nil => intro m τ _; rfl
        | cons w l ih =>
          intro m τ h
          show (L2.wipe (L2.wipe τ m) l).set w none = _
          rw [ih m τ fun j hj => h j (List.mem_cons_of_mem _ hj)]
          exact idem m τ w (h w List.mem_cons_self)
      exact all vs vs σ fun _ h => h
    · cases b with
      | true =>
        refine iteT ⟨ρ4, S5, _, X0, r4.mono t5, a5, q5, fun d S6 v6 H6 q6 t6 r6 a6 => ?_, lx0⟩
        obtain ⟨acc, e6, l6, w6⟩ := q6
        obtain ⟨xs, h6, rl⟩ := a6 p _ e6
        have tw : Tk K H6 (upd H6 p (.lst (xs ++ [v6]))) := Tk.write h6 wr_lst
        refine ⟨xs, h6, by rw [rl.length]; exact l6, (((t2.trans t3).trans t4).trans t5).trans (t6.trans tw), _, a6.write h6 wr_lst (.mlst upd_same ((rl.mono tw).append (.cons (r6.mono tw) .nil))), w6⟩
      | false => exact iteF ⟨((t2.trans t3).trans t4).trans t5, S5, a5, q5⟩
  · have e : i = items.length := by omega
    subst e
    exact .inl ⟨it.stop H' S' t2 a2 (st _ S' hi w), k _ S' _ H' (done S' w) (t1.trans t2) (.ref p) a2⟩
theorem d_lc (hc : X.calm = true) (hN : X.N.Nodup) (hi : PI X tg iter (lowI X.K W di)) (ok : BlkOk X.N X.env.scope scope own)
    (hg : ∀ (s : Shared) (H : Hp) (C : Addr) (cl : List (Str × Addr)) (fp : List Addr), PG (X.blk s H scope (compEnvC scope cl C X.env) fp) tg g) (ng : NG X.K g dg (own.map (·.2)))
    (ht : ∀ (s : Shared) (H : Hp) (C : Addr) (cl : List (Str × Addr)) (fp : List Addr), PTs (X.blk s H scope (compEnvC scope cl C X.env) fp) ifs (lowT X.K W0 dt))
    (he : ∀ (s : Shared) (H : Hp) (C : Addr) (cl : List (Str × Addr)) (fp : List Addr), PE (X.blk s H scope (compEnvC scope cl C X.env) fp) elt (low X.K W0 de)) (hs : ∀ x, foldedSetIterable iter X.env x = pure x := by intro _; rfl) :
    PE X (.ListComp elt [⟨tg, iter, ifs, 0⟩] scope pos) (low X.K W (dLc di dg dt de (own.map (·.2)))) := pei (pe_lc hc hN hi ok hg ht he hs) (low_lc ng)
theorem s_setLc (i : Nat) {y : Str} {py : Pos} (hc : X.calm = true) (hN : X.N.Nodup) (hsw : swapsWith (.ListComp elt [⟨tg, iter, ifs, 0⟩] scope pos) (some (.Name y py)) spos.line X.env = pure true)
    (hi : PI X tg iter (lowI X.K W di)) (ok : BlkOk X.N X.env.scope scope own)
    (hg : ∀ (s : Shared) (H : Hp) (C : Addr) (cl : List (Str × Addr)) (fp : List Addr), PG (X.blk s H scope (compEnvC scope cl C X.env) fp) tg g) (ng : NG X.K g dg (own.map (·.2)))
    (ht : ∀ (s : Shared) (H : Hp) (C : Addr) (cl : List (Str × Addr)) (fp : List Addr), PTs (X.blk s H scope (compEnvC scope cl C X.env) fp) ifs (lowT X.K W0 dt))
    (he : ∀ (s : Shared) (H : Hp) (C : Addr) (cl : List (Str × Addr)) (fp : List Addr), PE (X.blk s H scope (compEnvC scope cl C X.env) fp) elt (low X.K W0 de))
    (hy : X.N[i]? = some y := by rfl) (hyl : X.env.scope.names.lookup y = some .local := by rfl) (hs : ∀ x, foldedSetIterable iter X.env x = pure x := by intro _; rfl) :
    PS X (.Assign [.Name y py] (.ListComp elt [⟨tg, iter, ifs, 0⟩] scope pos) spos) (lowS X.K W (dAsg (dLc di dg dt de (own.map (·.2))) (gN i))) := psi (ps_setLc hc hN hy hyl hsw hi ok hg ht he hs) fun D σ H ⟨ρ, S, Dh, hσ, hS, h, k⟩ => by
  exact low_lc ng σ H _ ⟨ρ, S, _, _, hσ, hS, h, fun d S1 v H1 q t r a => k.nx _ S1 _ H1 q t ((hσ.mono t).set i r) a, k.lx hσ⟩
end
end VD

namespace VD
open PySem PySem.Spec PyProof.Rows L2

/-! ### operators -/
section
variable {K : PySem.W.Frag} {X : Cx}
def rdAdd : RD2 := fun x y S Q => match x, y with
  | .int i, .int j => Q (.int (i + j)) S
  | .tup xs, .tup ys => xs.length + ys.length ≤ sizeLine ∧ Q (.tup (xs ++ ys)) S
  | .str a, .str b => a.length + b.length ≤ sizeLine ∧ Q (.str (a ++ b)) S
  | .ref a, .ref b => match S a, S b with
    | some (.lst xs), some (.lst ys) => xs.length + ys.length ≤ sizeLine ∧ ∀ p, S p = none → Q (.ref p) (put S p (.lst (xs ++ ys)))
    | _, _ => False
  | _, _ => False
abbrev rAddA (K : PySem.W.Frag) : R2 := fun x y H Q => rI0 (fun i j => .int (i + j)) x y H Q ∨ rCatA K x y H Q ∨ (∃ i j, x = .str i ∧ y = .str j ∧ i.length + j.length ≤ sizeLine ∧ Q (.str (i ++ j)) H) ∨ rCat x y H Q
theorem op_addA : OpR X (binaryOp .Add) (rAddA X.K) := op_add.or (op_catA.or (op_add_str.or op_cat))
theorem l_add : LR2 K (rAddA K) rdAdd := by
  intro x y H dx dy S Qh Q rx ry hS h k
  unfold rdAdd at h
  split at h
  · exact .inl ⟨_, _, rx.i_int, ry.i_int, k.now h (.int _) hS⟩
  · obtain ⟨a, xs, rfl, ha, la⟩ := rx.i_tup
    obtain ⟨b, ys, rfl, hb, lb⟩ := ry.i_tup
    obtain ⟨hl, q⟩ := h
    refine .inr (.inl ⟨a, b, xs, ys, rfl, rfl, ha, hb, by rw [la.length, lb.length]; exact hl, fun e => ?_, fun e e' => ?_, fun e e' p hp => ?_⟩)
    · rw [la.nil_iff.mp e] at q
      exact k.now q (.tup hb lb) hS
    · rw [lb.nil_iff.mp e', List.append_nil] at q
      exact k.now q (.tup ha la) hS
    · exact k _ _ _ _ q (Tk.new hp) (.tup (.inl (.inl upd_same)) ((la.mono (Tk.new hp)).append (lb.mono (Tk.new hp)))) (hS.tup hp)
  · exact .inr (.inr (.inl ⟨_, _, rx.i_str, ry.i_str, h.1, k.now h.2 (.str _) hS⟩))
  · rename_i a b
    split at h
    · rename_i xs ys ea eb
      obtain ⟨us, h1, l1⟩ := hS _ _ ea
      obtain ⟨vs, h2, l2⟩ := hS _ _ eb
      exact .inr (.inr (.inr ⟨a, b, us, vs, rx.i_ref, ry.i_ref, h1, h2, by rw [l1.length, l2.length]; exact h.1, fun p hp => k _ _ _ _ (h.2 p (hS.free hp)) (Tk.new hp) (.ref p) (hS.new hp (.mlst upd_same ((l1.mono (Tk.new hp)).append (l2.mono (Tk.new hp)))))⟩))
    · exact h.elim
  · exact h.elim
def rdSub : RD2 := fun x y S Q => match x, y with
  | .int i, .int j => Q (.int (i - j)) S
  | _, _ => False
theorem l_sub : LR2 K (rI0 fun i j => .int (i - j)) rdSub := by
  intro x y H dx dy S Qh Q rx ry hS h k
  unfold rdSub at h
  split at h
  · exact ⟨_, _, rx.i_int, ry.i_int, k.now h (.int _) hS⟩
  · exact h.elim
/-- a product fits -/
theorem mulok_l {i j : Int} (h1 : -(2 ^ 64) < i) (h2 : i < 2 ^ 64) : IntMulOk i j := .of_left (intBits_le_64 h1 h2)
theorem mulok_r {i j : Int} (h1 : -(2 ^ 64) < j) (h2 : j < 2 ^ 64) : IntMulOk i j := .of_right (intBits_le_64 h1 h2)
theorem op_mulK : OpR X (binaryOp .Mult) (rI IntMulOk fun i j => .int (i * j)) := opI fun _ _ _ _ _ _ _ hc q => mul_int q hc
/-- the same tuple -/
theorem tuple_mulS (l : Addr) (items : Array Value) (n : Nat) (dd : Option Addr) (sl : Array (Option Value)) (x : Int) (u : Tok) (c0 : (decide (x < -(2 ^ 63)) || decide (x ≥ 2 ^ 63)) = false) (c1 : (items.isEmpty || x == 1) = true) :
    Meets (Builtin.«tuple.__mul__» ⟨[.ref l, .int x u], []⟩) (fun _ R s => s.heap.get? l = some { cls := .type "tuple", dict := dd, data := .seq items n, slots := sl } ∧ R (.ok (.ret (Value.ref l))) s) :=
  .of_wp fun prog w A R s h => by
    obtain ⟨hp, g, d, tk, os⟩ := s
    obtain ⟨hl, h⟩ := h
    have f1 := AutoSeq1.idx_int
    wp_walk using wpAny_loadPart' hl
    repeat (first
      | (refine wpAny_ite_false (decide_eq_false (by rw [c0]; exact Bool.false_ne_true)) ?_; wp_walk using wpAny_loadPart' hl)
      | (refine wpAny_ite_true (decide_eq_true c1) ?_; wp_walk using wpAny_loadPart' hl))
    exact ⟨_, rfl, h⟩
def rRepS (K : PySem.W.Frag) : R2 := fun x y H Q => ∃ l k xs, x = .ref l ∧ y = .int k ∧ SqT K H l xs ∧ (xs = [] ∨ k = 1) ∧ 1 ≤ k ∧ k ≤ 1000 ∧ Q (.ref l) H
theorem op_repS : OpR X (binaryOp .Mult) (rRepS X.K) := by
  intro pins s σ H x y v u Q I rx ry h
  obtain ⟨l, k, xs, rfl, rfl, hT, hne, h1, h2, q⟩ := h
  cases rx
  obtain ⟨t, rfl⟩ := ry
  obtain ⟨its, r, ⟨⟨cls, dd, data, sl⟩, ho, hc, n, hd⟩, hs⟩ := I.tuple hT
  simp only at hc hd
  subst hc hd
  have c0 : (decide (k < -(2 ^ 63)) || decide (k ≥ 2 ^ 63)) = false := by
    rw [decide_eq_false (by omega), decide_eq_false (by omega)] <;> rfl
  have c1 : (its.toArray.isEmpty || k == 1) = true := by
    rcases hne with e | e
    · subst e; cases r; rfl
    · subst e; simp
  refine wpAny_binaryOp_repeat_ref (T := "tuple") (U := "int") (by decide) ⟨_, ho, rfl⟩ (fun s' => typeIs_int s' k t) noFill_tuple_mul F.fills_int_mul F.slot_int_rmul repeat_tuple F.slot_int_index.lookup
    (call_meets F.slot_int_rmul (typeIs_int s k t) F.entry_int_rmul (F.args_int_rmul_2 _ _) (int_rmul_tuple k t l its.toArray n dd sl)
      ⟨ho, rfl, ⟨_, ho, rfl⟩, call_meets F.slot_tuple_mul ⟨_, ho, rfl⟩ F.entry_tuple_mul (F.args_tuple_mul_2 _ _) (tuple_mulS l its.toArray n dd sl k t c0 c1) ⟨ho, ?_⟩⟩)
  exact ⟨.ref l, H, I, rfl, q⟩
def rdMul : RD2 := fun x y S Q => match x, y with
  | .int i, .int j => IntMulOk i j ∧ Q (.int (i * j)) S
  | .tup xs, .int k => (1 ≤ k ∧ k ≤ 1000 ∧ xs.length ≤ 1000) ∧ Q (.tup (List.replicate k.toNat xs).flatten) S
  | .ref a, .int k => match S a with
    | some (.lst xs) => (-(2 ^ 63) ≤ k ∧ k < 2 ^ 63 ∧ xs.length * k.toNat ≤ sizeLine) ∧ ∀ p, S p = none → Q (.ref p) (put S p (.lst (List.replicate k.toNat xs).flatten))
    | _ => False
  | _, _ => False
abbrev rMulA (K : PySem.W.Frag) : R2 := fun x y H Q => rI IntMulOk (fun i j => .int (i * j)) x y H Q ∨ rRepS K x y H Q ∨ rRepT K x y H Q ∨ rRep x y H Q
theorem op_mulA : OpR X (binaryOp .Mult) (rMulA X.K) := op_mulK.or (op_repS.or (op_repT.or op_rep))
theorem flat_nil {α : Type} : ∀ k : Nat, (List.replicate k ([] : List α)).flatten = []
  | 0 => rfl
  | k + 1 => by rw [List.replicate_succ, List.flatten_cons, flat_nil k]; rfl
theorem l_mul : LR2 K (rMulA K) rdMul := by
  intro x y H dx dy S Qh Q rx ry hS h k
  unfold rdMul at h
  split at h
  · exact .inl ⟨_, _, rx.i_int, ry.i_int, h.1, k.now h.2 (.int _) hS⟩
  · rename_i xs m
    obtain ⟨a, us, rfl, ha, la⟩ := rx.i_tup
    obtain ⟨⟨h1, h2, h3⟩, q⟩ := h
    by_cases e : us = [] ∨ m = 1
    · refine .inr (.inl ⟨a, m, us, rfl, ry.i_int, ha, e, h1, h2, ?_⟩)
      have e2 : (List.replicate m.toNat xs).flatten = xs := by
        rcases e with e | e
        · rw [la.nil_iff.mp e, flat_nil]
        · subst e; simp
      rw [e2] at q
      exact k.now q (.tup ha la) hS
    · have e1 : us ≠ [] := fun z => e (.inl z)
      have e2 : m ≠ 1 := fun z => e (.inr z)
      refine .inr (.inr (.inl ⟨a, m, us, rfl, ry.i_int, ha, e1, by omega, h2, by rw [la.length]; exact h3, fun p hp => ?_⟩))
      exact k _ _ _ _ q (Tk.new hp) (.tup (.inl (.inl upd_same)) ((la.mono (Tk.new hp)).rep _)) (hS.tup hp)
  · rename_i a m
    split at h
    · rename_i xs ea
      obtain ⟨us, h1, l1⟩ := hS _ _ ea
      obtain ⟨⟨b1, b2, b3⟩, q⟩ := h
      exact .inr (.inr (.inr ⟨a, m, us, rx.i_ref, ry.i_int, h1, b1, b2, by rw [l1.length]; exact b3, fun p hp => k _ _ _ _ (q p (hS.free hp)) (Tk.new hp) (.ref p) (hS.new hp (.mlst upd_same ((l1.mono (Tk.new hp)).rep _)))⟩))
    · exact h.elim
  · exact h.elim
/-- // and % by a positive number -/
def CDivP (i j : Int) : Prop := 0 < j ∧ j.natAbs.log2 < 9000
theorem op_divP : OpR X (binaryOp .FloorDiv) (rI CDivP fun i j => .int (i / j)) := opI fun i j _ _ _ _ _ hc q => by
  have h1 : (0 : Int) < j := hc.1
  exact floordiv_int (by omega) (by rw [Int.fdiv_eq_ediv_of_nonneg i (by omega)]; exact q) (.inl (PyProof.noPylong_of_log2 hc.2))
theorem divp {i j : Int} (b : Nat) (h : 0 < j) (hb : j.natAbs < 2 ^ b) (h0 : 0 < b := by decide) (h9 : b ≤ 9000 := by decide) : CDivP i j := ⟨h, Nat.lt_of_lt_of_le (PySem.Flt.log2_lt_of h0 hb) h9⟩
def rdDiv : RD2 := fun x y S Q => match x, y with
  | .int i, .int j => CDivP i j ∧ Q (.int (i / j)) S
  | _, _ => False
theorem l_div : LR2 K (rI CDivP fun i j => .int (i / j)) rdDiv := by
  intro x y H dx dy S Qh Q rx ry hS h k
  unfold rdDiv at h
  split at h
  · exact ⟨_, _, rx.i_int, ry.i_int, h.1, k.now h.2 (.int _) hS⟩
  · exact h.elim
def rdMod : RD2 := fun x y S Q => match x, y with
  | .int i, .int j => 0 < j ∧ Q (.int (i % j)) S
  | _, _ => False
theorem l_mod : LR2 K (rI (fun _ j => 0 < j) fun i j => .int (i % j)) rdMod := by
  intro x y H dx dy S Qh Q rx ry hS h k
  unfold rdMod at h
  split at h
  · exact ⟨_, _, rx.i_int, ry.i_int, h.1, k.now h.2 (.int _) hS⟩
  · exact h.elim
def rdPow : RD2 := fun x y S Q => match x, y with
  | .int i, .int j => CPow i j ∧ Q (.int (i ^ j.toNat)) S
  | _, _ => False
theorem l_pow : LR2 K (rI CPow fun i j => .int (i ^ j.toNat)) rdPow := by
  intro x y H dx dy S Qh Q rx ry hS h k
  unfold rdPow at h
  split at h
  · exact ⟨_, _, rx.i_int, ry.i_int, h.1, k.now h.2 (.int _) hS⟩
  · exact h.elim
/-- + in place, of ints -/
def rdIAdd : RD2 := fun x y S Q => match x, y with
  | .int i, .int j => Q (.int (i + j)) S
  | _, _ => False
theorem l_iadd : LR2 K (rI0 fun i j => .int (i + j)) rdIAdd := by
  intro x y H dx dy S Qh Q rx ry hS h k
  unfold rdIAdd at h
  split at h
  · exact ⟨_, _, rx.i_int, ry.i_int, k.now h (.int _) hS⟩
  · exact h.elim
/-! one-place -/
variable {W : WX} {a b e : Expr} {da : DE} {pos : Pos}
def dNeg (da : DE) : DE := fun ρ S Q X => da ρ S (fun x S1 => match x with | .int i => Q (.int (-i)) S1 | _ => False) X
theorem d_neg (ha : PE X a (low X.K W da)) : PE X (.UnaryOp .USub a pos) (low X.K W (dNeg da)) := pei (pe_un un_neg ha) fun σ H Q ⟨ρ, S, Qh, Xh, hσ, hS, h, k, x⟩ =>
  ⟨ρ, S, _, Xh, hσ, hS, h, fun d1 S1 v1 H1 q1 t1 r1 a1 => by
    cases d1 with
    | int i => exact ⟨i, r1.i_int, (k.mono t1).now q1 (.int _) a1⟩
    | _ => exact q1.elim, x⟩

/-! ### comparisons -/
mutual
def py : Dv → PyData
  | .non => .none
  | .bl b => .bool b
  | .int i => .int i
  | .str x => .str x
  | .tup xs => .tuple (pyL xs)
  | .rol xs => .list (pyL xs)
  | .ty _ => .none
  | .ref _ => .none
def pyL : List Dv → List PyData
  | [] => []
  | x :: xs => py x :: pyL xs
/-- data all through -/
def isD : Dv → Bool
  | .non | .bl _ | .int _ | .str _ => true
  | .tup xs | .rol xs => isDL xs
  | .ty _ | .ref _ => false
def isDL : List Dv → Bool
  | [] => true
  | x :: xs => isD x && isDL xs
end
mutual
theorem Rep.dp {H : Hp} : ∀ (d : Dv) {v : V}, Rep K H v d → isD d = true → Dp K H v (py d)
  | .non, _, h, _ => by rw [h.i_non]; exact .non
  | .bl b, _, h, _ => by rw [h.i_bl]; exact .bl b
  | .int b, _, h, _ => by rw [h.i_int]; exact .int b
  | .str b, _, h, _ => by rw [h.i_str]; exact .str b
  | .tup xs, _, h, e => by
    obtain ⟨p, us, rfl, hs, l⟩ := h.i_tup
    exact .tup hs (RepL.dp xs l (by simpa [isD] using e))
  | .rol xs, _, h, e => by
    obtain ⟨p, us, rfl, hs, l⟩ := h.i_rol
    exact .lst hs.sq (RepL.dp xs l (by simpa [isD] using e))
  | .ty _, _, _, e => by cases e
  | .ref _, _, _, e => by cases e
theorem RepL.dp {H : Hp} : ∀ (ds : List Dv) {vs : List V}, RepL K H vs ds → isDL ds = true → DpAll K H vs (pyL ds)
  | [], _, h, _ => by rw [h.nil_i]; exact .nil
  | d :: ds, _, h, e => by
    obtain ⟨v, r, rfl, h1, h2⟩ := h.cons_i
    simp only [isDL, Bool.and_eq_true] at e
    exact .cons (Rep.dp d h1 e.1) (RepL.dp ds h2 e.2)
end
def shp (d : Dv) : Bool := isD d && SeqAt.shaped (py d)
def shpL (ds : List Dv) : Bool := isDL ds && SeqAt.shaped (.list (pyL ds))
def eqvD (x y : Dv) : Bool := PyData.eqv (py x) (py y)
def eqvL (x y : List Dv) : Bool := PyData.eqvAll (pyL x) (pyL y)
def rdEqG (f : Bool → Bool) : RD2 := fun x y S Q => match x, y with
  | .int i, .int j => Q (.bl (f (decide (i = j)))) S
  | .bl i, .bl j => Q (.bl (f (decide (i = j)))) S
  | .str i, .str j => Q (.bl (f (decide (i = j)))) S
  | .ref a, .ref b => match S a, S b with
    | some (.lst xs), some (.lst ys) => shpL xs = true ∧ shpL ys = true ∧ Q (.bl (f (eqvL xs ys))) S
    | _, _ => False
  | .tup xs, .tup ys => (shp (.tup xs) = true ∧ shp (.tup ys) = true) ∧ Q (.bl (f (eqvL xs ys))) S
  | x, y => (shp x = true ∧ shp y = true) ∧ Q (.bl (f (eqvD x y))) S
abbrev rdEq := rdEqG fun b => b
abbrev rdNe := rdEqG fun b => !b
theorem dec_congr {p q : Prop} [Decidable p] [Decidable q] (h : p ↔ q) : decide p = decide q := by
  by_cases hp : p
  · rw [decide_eq_true hp, decide_eq_true (h.mp hp)]
  · rw [decide_eq_false hp, decide_eq_false fun z => hp (h.mpr z)]
/-- == (f the identity), != (f not) -/
def rEqG (K : PySem.W.Frag) (f : Bool → Bool) : R2 := fun x y H Q => (scal x y = true ∧ Q (.bl (f (decide (x = y)))) H) ∨ ∃ d e, Dp K H x d ∧ Dp K H y e ∧ SeqAt.shaped d = true ∧ SeqAt.shaped e = true ∧ Q (.bl (f (PyData.eqv d e))) H
theorem op_eqA (hu : X.A.units + 64 < cLine) : OpR X (compareOp .Eq) (rEqG X.K fun b => b) := op_eq.or (op_eqD hu)
theorem op_neA (hu : X.A.units + 64 < cLine) : OpR X (compareOp .NotEq) (rEqG X.K fun b => !b) := op_ne.or (op_neD hu)
theorem shp_i {d : Dv} (h : shp d = true) : isD d = true ∧ SeqAt.shaped (py d) = true := by
  unfold shp at h
  rwa [Bool.and_eq_true] at h
theorem l_eq {f : Bool → Bool} : LR2 K (rEqG K f) (rdEqG f) := by
  intro x y H dx dy S Qh Q rx ry hS h k
  unfold rdEqG at h
  split at h
  · rw [rx.i_int, ry.i_int]
    refine .inl ⟨rfl, ?_⟩
    rw [dec_congr (q := _ = _) ⟨V.int.inj, congrArg V.int⟩]
    exact k.now h (.bl _) hS
  · rw [rx.i_bl, ry.i_bl]
    refine .inl ⟨rfl, ?_⟩
    rw [dec_congr (q := _ = _) ⟨V.bl.inj, congrArg V.bl⟩]
    exact k.now h (.bl _) hS
  · rw [rx.i_str, ry.i_str]
    refine .inl ⟨rfl, ?_⟩
    rw [dec_congr (q := _ = _) ⟨V.str.inj, congrArg V.str⟩]
    exact k.now h (.bl _) hS
  · split at h
    · rename_i a b _ _ xs ys ea eb
      obtain ⟨us, h1, l1⟩ := hS _ _ ea
      obtain ⟨vs, h2, l2⟩ := hS _ _ eb
      obtain ⟨s1, s2, q⟩ := h
      unfold shpL at s1 s2
      rw [Bool.and_eq_true] at s1 s2
      rw [rx.i_ref, ry.i_ref]
      exact .inr ⟨_, _, .lst (.inl (.inl h1)) (RepL.dp _ l1 s1.1), .lst (.inl (.inl h2)) (RepL.dp _ l2 s2.1), s1.2, s2.2, k.now q (.bl _) hS⟩
    · exact h.elim
  · obtain ⟨⟨s1, s2⟩, q⟩ := h
    exact .inr ⟨_, _, Rep.dp _ rx (shp_i s1).1, Rep.dp _ ry (shp_i s2).1, (shp_i s1).2, (shp_i s2).2, k.now q (.bl _) hS⟩
  · obtain ⟨⟨s1, s2⟩, q⟩ := h
    exact .inr ⟨_, _, Rep.dp _ rx (shp_i s1).1, Rep.dp _ ry (shp_i s2).1, (shp_i s1).2, (shp_i s2).2, k.now q (.bl _) hS⟩
def rdCmp (p : Int → Int → Bool) : RD2 := fun x y S Q => match x, y with
  | .int i, .int j => Q (.bl (p i j)) S
  | _, _ => False
abbrev rdLt := rdCmp fun i j => decide (i < j)
abbrev rdLe := rdCmp fun i j => decide (i ≤ j)
abbrev rdGt := rdCmp fun i j => decide (j < i)
abbrev rdGe := rdCmp fun i j => decide (j ≤ i)
theorem l_cmp {p : Int → Int → Bool} : LR2 K (rI0 fun i j => .bl (p i j)) (rdCmp p) := by
  intro x y H dx dy S Qh Q rx ry hS h k
  unfold rdCmp at h
  split at h
  · exact ⟨_, _, rx.i_int, ry.i_int, k.now h (.bl _) hS⟩
  · exact h.elim
/-- is None, is not None -/
def isNon : Dv → Bool
  | .non => true
  | _ => false
def rdIsN (f : Bool → Bool) : RD2 := fun x y S Q => match y with
  | .non => Q (.bl (f (isNon x))) S
  | _ => False
theorem isNon_v {H : Hp} {x : V} {d : Dv} (r : Rep K H x d) : decide (x = .non) = isNon d := by
  cases r <;> rfl
theorem l_isN : LR2 K (fun x y H Q => y = .non ∧ Q (.bl (decide (x = .non))) H) (rdIsN fun b => b) := by
  intro x y H dx dy S Qh Q rx ry hS h k
  unfold rdIsN at h
  split at h
  · exact ⟨ry.i_non, by rw [isNon_v rx]; exact k.now h (.bl _) hS⟩
  · exact h.elim
theorem l_notN : LR2 K (fun x y H Q => y = .non ∧ Q (.bl (!decide (x = .non))) H) (rdIsN fun b => !b) := by
  intro x y H dx dy S Qh Q rx ry hS h k
  unfold rdIsN at h
  split at h
  · exact ⟨ry.i_non, by rw [isNon_v rx]; exact k.now h (.bl _) hS⟩
  · exact h.elim
end
/-! ### displays, subscripts, slices -/
section
variable {K : PySem.W.Frag} {X : Cx} {W : WX} {a b e : Expr} {es : List Expr} {da db : DE} {das : DA} {pos : Pos}
def dTup (das : DA) : DE := fun ρ S Q X => das ρ S (fun ds S1 => ds.length ≤ sizeLine ∧ Q (.tup ds) S1) X
theorem d_tup {x1} (h : PA X es (lowA X.K W das)) : PE X (.Tuple es x1 pos) (low X.K W (dTup das)) := pei (pe_tup h) fun σ H Q ⟨ρ, S, Qh, Xh, hσ, hS, h, k, x⟩ =>
  ⟨ρ, S, _, Xh, hσ, hS, h, fun ds S1 vs H1 q1 t1 r1 a1 => ⟨by rw [r1.length]; exact q1.1, fun p hp => k _ _ _ _ q1.2 (t1.trans (Tk.new hp)) (.tup (.inl (.inl upd_same)) (r1.mono (Tk.new hp))) (a1.tup hp)⟩, x⟩
def dLst (das : DA) : DE := fun ρ S Q X => das ρ S (fun ds S1 => ds.length ≤ sizeLine ∧ ∀ p, S1 p = none → Q (.ref p) (put S1 p (.lst ds))) X
theorem d_lst (h : PA X es (lowA X.K W das)) : PE X (.List es pos) (low X.K W (dLst das)) := pei (pe_lst h) fun σ H Q ⟨ρ, S, Qh, Xh, hσ, hS, h, k, x⟩ =>
  ⟨ρ, S, _, Xh, hσ, hS, h, fun ds S1 vs H1 q1 t1 r1 a1 => ⟨by rw [r1.length]; exact q1.1, fun p hp => k _ _ _ _ (q1.2 p (a1.free hp)) (t1.trans (Tk.new hp)) (.ref p) (a1.new hp (.mlst upd_same (r1.mono (Tk.new hp))))⟩, x⟩
theorem atI_len {α β : Type} {xs : List α} {ys : List β} {i : Int} {y : β} (hl : xs.length = ys.length) (h : atI ys i = some y) (P : β → α → Prop) (hp : ∀ (j : Nat) y, ys[j]? = some y → ∃ x, xs[j]? = some x ∧ P y x) : ∃ x, atI xs i = some x ∧ P y x := by
  unfold atI at h ⊢
  rw [hl]
  cases e : ixN ys.length i with
  | none => rw [e] at h; cases h
  | some j =>
    rw [e] at h
    exact hp j y h
def rdIx : RD2 := fun x y S Q => match x, y with
  | .tup xs, .int i => ∃ d, atI xs i = some d ∧ Q d S
  | .rol xs, .int i => ∃ d, atI xs i = some d ∧ Q d S
  | .ref a, .int i => match S a with
    | some (.lst xs) => ∃ d, atI xs i = some d ∧ Q d S
    | _ => False
  | .str z, .int i => z.length ≤ sizeLine ∧ ∃ c, atI z.cps.toList i = some c ∧ Q (.str ⟨#[c]⟩) S
  | _, _ => False
theorem l_ix : LR2 K (rIx K) rdIx := by
  intro x y H dx dy S Qh Q rx ry hS h k
  unfold rdIx at h
  split at h
  · obtain ⟨a, us, rfl, ha, la⟩ := rx.i_tup
    obtain ⟨d, hd, q⟩ := h
    obtain ⟨v, hv, rv⟩ := atI_len la.length hd (fun d v => Rep K H v d) fun j y hy => la.get hy
    exact .inr (.inl ⟨a, us, _, v, rfl, ry.i_int, ha, hv, k.now q rv hS⟩)
  · obtain ⟨a, us, rfl, ha, la⟩ := rx.i_rol
    obtain ⟨d, hd, q⟩ := h
    obtain ⟨v, hv, rv⟩ := atI_len la.length hd (fun d v => Rep K H v d) fun j y hy => la.get hy
    exact .inl ⟨a, us, _, v, rfl, ry.i_int, ha.sq, hv, k.now q rv hS⟩
  · rename_i a i
    split at h
    · rename_i xs ea
      obtain ⟨us, h1, la⟩ := hS _ _ ea
      obtain ⟨d, hd, q⟩ := h
      obtain ⟨v, hv, rv⟩ := atI_len la.length hd (fun d v => Rep K H v d) fun j y hy => la.get hy
      exact .inl ⟨a, us, _, v, rx.i_ref, ry.i_int, .inl (.inl h1), hv, k.now q rv hS⟩
    · exact h.elim
  · obtain ⟨hz, c, hc, q⟩ := h
    exact .inr (.inr ⟨_, _, c, rx.i_str, ry.i_int, hz, hc, k.now q (.str _) hS⟩)
  · exact h.elim
theorem d_ix (ha : PE X a (low X.K W da)) (hb : PE X b (low X.K W db)) (hs : PlainIx b := by intro _ _; rfl) : PE X (.Subscript a b pos) (low X.K W (dOp rdIx da db)) := pei (pe_ix ix_seq ha hb hs) (low_op l_ix)
/-- xs[i] = v -/
def rdSet : RDS := fun o i d S Q => match o, i with
  | .ref a, .int k => match S a with
    | some (.lst xs) => ∃ j, ixN xs.length k = some j ∧ Q (put S a (.lst (xs.set j d)))
    | _ => False
  | _, _ => False
theorem l_set : LRS K rSetL rdSet := by
  intro o i v H dO dI d S Qh Q rO rI r hS h k
  unfold rdSet at h
  split at h
  · rename_i a m
    split at h
    · rename_i xs ea
      obtain ⟨us, h1, la⟩ := hS _ _ ea
      obtain ⟨j, hj, q⟩ := h
      have tw : Tk K H (upd H a (.lst (us.set j v))) := Tk.write h1 wr_lst
      exact ⟨a, us, m, j, rO.i_ref, rI.i_int, h1, by rw [la.length]; exact hj, k _ _ q tw (hS.write h1 wr_lst (.mlst upd_same ((la.mono tw).set j (r.mono tw))))⟩
    · exact h.elim
  · exact h.elim
/-! slices -/
variable {dl dh : DO}
def oNone : DO := fun _ S Q _ => Q none S
def oSome (de : DE) : DO := fun ρ S Q X => de ρ S (fun d S1 => match d with | .int i => Q (some i) S1 | _ => False) X
theorem o_none : PO X none (lowO X.K W oNone) := poi po_none fun σ H Q ⟨ρ, S, Qh, Xh, hσ, hS, h, k, x⟩ => k _ S H h (Tk.refl H) hS
theorem o_some {de : DE} (h : PE X e (low X.K W de)) : PO X (some e) (lowO X.K W (oSome de)) := poi (po_some h) fun σ H Q ⟨ρ, S, Qh, Xh, hσ, hS, h, k, x⟩ =>
  ⟨ρ, S, _, Xh, hσ, hS, h, fun d S1 v H1 q t r a => by
    cases d with
    | int i => exact ⟨i, r.i_int, k _ S1 H1 q t a⟩
    | _ => exact q.elim, x⟩
def cutD {α : Type} (xs : List α) (lo hi : Option Int) : List α := (xs.drop (HT.sIx xs.length 0 lo)).take (HT.sIx xs.length xs.length hi - HT.sIx xs.length 0 lo)
theorem cut_rep {H : Hp} {vs : List V} {ds : List Dv} (l : RepL K H vs ds) (lo hi : Option Int) : RepL K H (cutV vs lo hi) (cutD ds lo hi) := by
  unfold cutV cutD
  rw [l.length]
  exact (l.drop _).take _
theorem cut_whole {α : Type} {xs : List α} {lo hi : Option Int} (h : HT.sIx xs.length 0 lo = 0 ∧ HT.sIx xs.length xs.length hi = xs.length) : cutD xs lo hi = xs := by
  unfold cutD
  rw [h.1, h.2, List.drop_zero, Nat.sub_zero, List.take_length]
def rdSl (x : Dv) (lo hi : Option Int) (S : Sto) (Q : QD) : Prop := match x with
  | .tup xs => Q (.tup (cutD xs lo hi)) S
  | .rol xs => ∀ p, S p = none → Q (.ref p) (put S p (.lst (cutD xs lo hi)))
  | .ref a => match S a with
    | some (.lst xs) => ∀ p, S p = none → Q (.ref p) (put S p (.lst (cutD xs lo hi)))
    | _ => False
  | .str z => z.length ≤ sizeLine ∧ Q (.str (cutS z lo hi)) S
  | _ => False
def dSl (de : DE) (dl dh : DO) : DE := fun ρ S Q X => de ρ S (fun d S1 => dl ρ S1 (fun lo S2 => dh ρ S2 (fun hi S3 => rdSl d lo hi S3 Q) X) X) X
def rSlAll (K : PySem.W.Frag) : V → Option Int → Option Int → Hp → VK → Prop := fun x lo hi H Q => rSlA K x lo hi H Q ∨ rSlL K x lo hi H Q ∨ rSlS x lo hi H Q
theorem sl_all : SlR X (rSlAll X.K) := sl_tupA.or (sl_list.or sl_str)
theorem l_sl {x : V} {d : Dv} {lo hi : Option Int} {H : Hp} {S : Sto} {Qh : QD} {Q : VK} (rx : Rep K H x d) (hS : Abs K H S) (h : rdSl d lo hi S Qh) (k : Lk K H Qh Q) : rSlAll K x lo hi H Q := by
  unfold rdSl at h
  split at h
  · rename_i xs
    obtain ⟨a, us, rfl, ha, la⟩ := rx.i_tup
    refine .inl ⟨a, us, rfl, ha, fun e => ?_, fun _ p hp => k _ _ _ _ h (Tk.new hp) (.tup (.inl (.inl upd_same)) ((cut_rep la lo hi).mono (Tk.new hp))) (hS.tup hp)⟩
    rw [la.length] at e
    rw [cut_whole e] at h
    exact k.now h (.tup ha la) hS
  · obtain ⟨a, us, rfl, ha, la⟩ := rx.i_rol
    exact .inr (.inl ⟨a, us, rfl, ha.sq, fun p hp => k _ _ _ _ (h p (hS.free hp)) (Tk.new hp) (.ref p) (hS.new hp (.mlst upd_same ((cut_rep la lo hi).mono (Tk.new hp))))⟩)
  · rename_i a
    split at h
    · rename_i xs ea
      obtain ⟨us, h1, la⟩ := hS _ _ ea
      exact .inr (.inl ⟨a, us, rx.i_ref, .inl (.inl h1), fun p hp => k _ _ _ _ (h p (hS.free hp)) (Tk.new hp) (.ref p) (hS.new hp (.mlst upd_same ((cut_rep la lo hi).mono (Tk.new hp))))⟩)
    · exact h.elim
  · exact .inr (.inr ⟨_, rx.i_str, h.1, k.now h.2 (.str _) hS⟩)
  · exact h.elim
theorem d_sl {lo hi : Option Expr} {p2 : Pos} (he : PE X e (low X.K W da)) (hl : PO X lo (lowO X.K W dl)) (hu : PO X hi (lowO X.K W dh)) : PE X (.Subscript e (.Slice lo hi none p2) pos) (low X.K W (dSl da dl dh)) := pei (pe_slice sl_all he hl hu) fun σ H Q ⟨ρ, S, Qh, Xh, hσ, hS, h, k, x⟩ =>
  ⟨ρ, S, _, Xh, hσ, hS, h, fun d1 S1 v1 H1 q1 t1 r1 a1 => ⟨ρ, S1, _, Xh, hσ.mono t1, a1, q1, fun lo S2 H2 q2 t2 a2 => ⟨ρ, S2, _, Xh, hσ.mono (t1.trans t2), a2, q2, fun hi S3 H3 q3 t3 a3 =>
    l_sl (r1.mono (t2.trans t3)) a3 q3 (k.mono ((t1.trans t2).trans t3)), x.mono (t1.trans t2)⟩, x.mono t1⟩, x⟩

/-! ### builtins -/
def rdLen : RDC := fun ds S Q => match ds with
  | [.tup xs] => Q (.int xs.length) S
  | [.rol xs] => Q (.int xs.length) S
  | [.ref a] => match S a with
    | some (.lst xs) => Q (.int xs.length) S
    | _ => False
  | [.str z] => z.length ≤ sizeLine ∧ Q (.int z.length) S
  | _ => False
theorem one_i {H : Hp} {vs : List V} {d : Dv} (r : RepL K H vs [d]) : ∃ v, vs = [v] ∧ Rep K H v d := by
  obtain ⟨v, t, rfl, h1, h2⟩ := r.cons_i
  exact ⟨v, by rw [h2.nil_i], h1⟩
theorem two_i {H : Hp} {vs : List V} {d e : Dv} (r : RepL K H vs [d, e]) : ∃ v u, vs = [v, u] ∧ Rep K H v d ∧ Rep K H u e := by
  obtain ⟨v, t, rfl, h1, h2⟩ := r.cons_i
  obtain ⟨u, rfl, h3⟩ := one_i h2
  exact ⟨v, u, rfl, h1, h3⟩
theorem l_len : LRC K (fun xs H Q => ∃ x n, xs = [x] ∧ LenV K x H n ∧ Q (.int n) H) rdLen := by
  intro vs H ds S Qh Q r hS h k
  unfold rdLen at h
  split at h
  · obtain ⟨v, rfl, rr⟩ := one_i r
    obtain ⟨a, us, rfl, ha, la⟩ := rr.i_tup
    exact ⟨_, _, rfl, .inr ⟨us, ha, la.length.symm⟩, k.now h (.int _) hS⟩
  · obtain ⟨v, rfl, rr⟩ := one_i r
    obtain ⟨a, us, rfl, ha, la⟩ := rr.i_rol
    exact ⟨_, _, rfl, .inl ⟨us, ha.sq, la.length.symm⟩, k.now h (.int _) hS⟩
  · rename_i a
    obtain ⟨v, rfl, rr⟩ := one_i r
    split at h
    · rename_i xs ea
      obtain ⟨us, h1, la⟩ := hS _ _ ea
      rw [rr.i_ref]
      exact ⟨_, _, rfl, .inl ⟨us, .inl (.inl h1), la.length.symm⟩, k.now h (.int _) hS⟩
    · exact h.elim
  · obtain ⟨v, rfl, rr⟩ := one_i r
    rw [rr.i_str]
    exact ⟨_, _, rfl, ⟨h.1, rfl⟩, k.now h.2 (.int _) hS⟩
  · exact h.elim
/-- a function on ints -/
def rdInt1 (f : Int → Dv) : RDC := fun ds S Q => match ds with
  | [.int i] => Q (f i) S
  | _ => False
theorem l_abs : LRC K (fun xs H Q => ∃ i, xs = [.int i] ∧ Q (.int (if i < 0 then -i else i)) H) (rdInt1 fun i => .int (if i < 0 then -i else i)) := by
  intro vs H ds S Qh Q r hS h k
  unfold rdInt1 at h
  split at h
  · obtain ⟨v, rfl, rr⟩ := one_i r
    rw [rr.i_int]
    exact ⟨_, rfl, k.now h (.int _) hS⟩
  · exact h.elim
def rdInt : RDC := fun ds S Q => match ds with
  | [.int i] => Q (.int i) S
  | [.bl b] => Q (.int (if b then 1 else 0)) S
  | _ => False
theorem l_int : LRC K (fun xs H Q => (∃ i, xs = [.int i] ∧ Q (.int i) H) ∨ ∃ k, xs = [.bl k] ∧ Q (.int (if k then 1 else 0)) H) rdInt := by
  intro vs H ds S Qh Q r hS h k
  unfold rdInt at h
  split at h
  · obtain ⟨v, rfl, rr⟩ := one_i r
    rw [rr.i_int]
    exact .inl ⟨_, rfl, k.now h (.int _) hS⟩
  · obtain ⟨v, rfl, rr⟩ := one_i r
    rw [rr.i_bl]
    exact .inr ⟨_, rfl, k.now h (.int _) hS⟩
  · exact h.elim
def rdInt2 (f : Int → Int → Dv) : RDC := fun ds S Q => match ds with
  | [.int i, .int j] => Q (f i j) S
  | _ => False
theorem l_max2 : LRC K (fun xs H Q => ∃ i j, xs = [.int i, .int j] ∧ Q (.int (if j > i then j else i)) H) (rdInt2 fun i j => .int (if j > i then j else i)) := by
  intro vs H ds S Qh Q r hS h k
  unfold rdInt2 at h
  split at h
  · obtain ⟨v, u, rfl, r1, r2⟩ := two_i r
    rw [r1.i_int, r2.i_int]
    exact ⟨_, _, rfl, k.now h (.int _) hS⟩
  · exact h.elim
theorem l_min2 : LRC K (fun xs H Q => ∃ i j, xs = [.int i, .int j] ∧ Q (.int (if j < i then j else i)) H) (rdInt2 fun i j => .int (if j < i then j else i)) := by
  intro vs H ds S Qh Q r hS h k
  unfold rdInt2 at h
  split at h
  · obtain ⟨v, u, rfl, r1, r2⟩ := two_i r
    rw [r1.i_int, r2.i_int]
    exact ⟨_, _, rfl, k.now h (.int _) hS⟩
  · exact h.elim
/-- the items of a list or a tuple, and a store in which the list may be forgotten -/
def seqOf (d : Dv) (S : Sto) (R : List Dv → Prop) : Prop := match d with
  | .tup xs => R xs
  | .rol xs => R xs
  | .ref a => match S a with
    | some (.lst xs) => R xs
    | _ => False
  | _ => False
def lstOf (d : Dv) (S : Sto) (R : List Dv → Prop) : Prop := match d with
  | .rol xs => R xs
  | .ref a => match S a with
    | some (.lst xs) => R xs
    | _ => False
  | _ => False
theorem lstOf_i {H : Hp} {S : Sto} {d : Dv} {v : V} {R : List Dv → Prop} (r : Rep K H v d) (hS : Abs K H S) (h : lstOf d S R) : ∃ a us xs, v = .ref a ∧ SqL K H a us ∧ RepL K H us xs ∧ R xs := by
  unfold lstOf at h
  split at h
  · obtain ⟨a, us, rfl, ha, la⟩ := r.i_rol
    exact ⟨a, us, _, rfl, ha.sq, la, h⟩
  · rename_i a
    split at h
    · rename_i xs ea
      obtain ⟨us, h1, la⟩ := hS _ _ ea
      exact ⟨a, us, xs, r.i_ref, .inl (.inl h1), la, h⟩
    · exact h.elim
  · exact h.elim
theorem seqOf_i {H : Hp} {S : Sto} {d : Dv} {v : V} {R : List Dv → Prop} (r : Rep K H v d) (hS : Abs K H S) (h : seqOf d S R) : ∃ a us xs, v = .ref a ∧ (SqL K H a us ∨ SqT K H a us) ∧ RepL K H us xs ∧ R xs := by
  unfold seqOf at h
  split at h
  · obtain ⟨a, us, rfl, ha, la⟩ := r.i_tup
    exact ⟨a, us, _, rfl, .inr ha, la, h⟩
  · obtain ⟨a, us, rfl, ha, la⟩ := r.i_rol
    exact ⟨a, us, _, rfl, .inl ha.sq, la, h⟩
  · rename_i a
    split at h
    · rename_i xs ea
      obtain ⟨us, h1, la⟩ := hS _ _ ea
      exact ⟨a, us, xs, r.i_ref, .inl (.inl (.inl h1)), la, h⟩
    · exact h.elim
  · exact h.elim
def rdAll : RDC := fun ds S Q => match ds with
  | [d] => lstOf d S fun xs => ∃ bs : List Bool, xs = bs.map Dv.bl ∧ ∃ S', Sub S' S ∧ Q (.bl (bs.all id)) S'
  | _ => False
theorem l_all : LRC K (rAll K) rdAll := by
  intro vs H ds S Qh Q r hS h k
  unfold rdAll at h
  split at h
  · obtain ⟨v, rfl, rr⟩ := one_i r
    obtain ⟨a, us, xs, rfl, hl, rl, bs, rfl, S', sb, q⟩ := lstOf_i rr hS h
    exact ⟨a, bs, rfl, by rw [← rl.bls]; exact hl, k.now q (.bl _) (hS.sub sb)⟩
  · exact h.elim
def rdAny : RDC := fun ds S Q => match ds with
  | [d] => lstOf d S fun xs => ∃ bs : List Bool, xs = bs.map Dv.bl ∧ ∃ S', Sub S' S ∧ Q (.bl (bs.any id)) S'
  | _ => False
theorem l_any : LRC K (rAny K) rdAny := by
  intro vs H ds S Qh Q r hS h k
  unfold rdAny at h
  split at h
  · obtain ⟨v, rfl, rr⟩ := one_i r
    obtain ⟨a, us, xs, rfl, hl, rl, bs, rfl, S', sb, q⟩ := lstOf_i rr hS h
    exact ⟨a, bs, rfl, by rw [← rl.bls]; exact hl, k.now q (.bl _) (hS.sub sb)⟩
  · exact h.elim
def rdSum : RDC := fun ds S Q => match ds with
  | [d] => lstOf d S fun xs => ∃ bs : List Int, xs = bs.map Dv.int ∧ ∃ S', Sub S' S ∧ Q (.int bs.sum) S'
  | _ => False
theorem l_sum : LRC K (rSum K) rdSum := by
  intro vs H ds S Qh Q r hS h k
  unfold rdSum at h
  split at h
  · obtain ⟨v, rfl, rr⟩ := one_i r
    obtain ⟨a, us, xs, rfl, hl, rl, bs, rfl, S', sb, q⟩ := lstOf_i rr hS h
    exact ⟨a, bs, rfl, by rw [← rl.ints]; exact hl, k.now q (.int _) (hS.sub sb)⟩
  · exact h.elim
def rdSorted : RDC := fun ds S Q => match ds with
  | [d] => lstOf d S fun xs => ∃ ns : List Int, xs = ns.map Dv.int ∧ ns.length < 64 ∧ ∃ S', Sub S' S ∧ ∀ (ns' : List Int) p, ns'.Perm ns → ns'.Pairwise (· ≤ ·) → S' p = none → Q (.ref p) (put S' p (.lst (ns'.map Dv.int)))
  | _ => False
theorem l_sorted : LRC K (rSorted K) rdSorted := by
  intro vs H ds S Qh Q r hS h k
  unfold rdSorted at h
  split at h
  · obtain ⟨v, rfl, rr⟩ := one_i r
    obtain ⟨a, us, xs, rfl, hl, rl, bs, rfl, hlen, S', sb, q⟩ := lstOf_i rr hS h
    exact ⟨a, bs, rfl, by rw [← rl.ints]; exact hl, hlen, fun ns' p h1 h2 hp => k _ _ _ _ (q ns' p h1 h2 ((hS.sub sb).free hp)) (Tk.new hp) (.ref p) ((hS.sub sb).new hp (.mlst upd_same (RepL.of_ints ns')))⟩
  · exact h.elim
def rdTuple : RDC := fun ds S Q => match ds with
  | [d] => seqOf d S fun xs => ∃ S', Sub S' S ∧ Q (.tup xs) S'
  | _ => False
theorem l_tuple : LRC K (fun xs H Q => ∃ p ys, xs = [.ref p] ∧ ((SqL K H p ys ∧ ∀ l, H l = none → Q (.ref l) (upd H l (.tup ys))) ∨ (SqT K H p ys ∧ Q (.ref p) H))) rdTuple := by
  intro vs H ds S Qh Q r hS h k
  unfold rdTuple at h
  split at h
  · obtain ⟨v, rfl, rr⟩ := one_i r
    obtain ⟨a, us, xs, rfl, hl, rl, S', sb, q⟩ := seqOf_i rr hS h
    rcases hl with hl | hl
    · exact ⟨a, us, rfl, .inl ⟨hl, fun p hp => k _ _ _ _ q (Tk.new hp) (.tup (.inl (.inl upd_same)) (rl.mono (Tk.new hp))) ((hS.sub sb).tup hp)⟩⟩
    · exact ⟨a, us, rfl, .inr ⟨hl, k.now q (.tup hl rl) (hS.sub sb)⟩⟩
  · exact h.elim
def rdList : RDC := fun ds S Q => match ds with
  | [d] => seqOf d S fun xs => ∀ p, S p = none → Q (.ref p) (put S p (.lst xs))
  | _ => False
theorem l_list : LRC K (fun xs H Q => ∃ p ys, xs = [.ref p] ∧ (SqL K H p ys ∨ SqT K H p ys) ∧ ∀ l, H l = none → Q (.ref l) (upd H l (.lst ys))) rdList := by
  intro vs H ds S Qh Q r hS h k
  unfold rdList at h
  split at h
  · obtain ⟨v, rfl, rr⟩ := one_i r
    obtain ⟨a, us, xs, rfl, hl, rl, q⟩ := seqOf_i rr hS h
    exact ⟨a, us, rfl, hl, fun p hp => k _ _ _ _ (q p (hS.free hp)) (Tk.new hp) (.ref p) (hS.new hp (.mlst upd_same (rl.mono (Tk.new hp))))⟩
  · exact h.elim
/-! isinstance, built-in types -/
def tyN (S : Sto) : Dv → Option String
  | .non => some "NoneType"
  | .bl _ => some "bool"
  | .int _ => some "int"
  | .str _ => some "str"
  | .tup _ => some "tuple"
  | .rol _ => some "list"
  | .ref a => match S a with
    | some (.lst _) => some "list"
    | some (.dK _) => some "dict"
    | _ => none
  | .ty _ => none
def tyNames : List String := ["int", "bool", "str", "tuple", "list", "dict"]
def isiB (t n : String) : Bool := t == n || (t == "bool" && n == "int")
theorem kitB_tab : ∀ t ∈ ["NoneType", "bool", "int", "str", "tuple", "list", "dict"], ∀ n ∈ tyNames, kitB t n = some (isiB t n) := by decide +kernel
theorem tyN_in {S : Sto} {d : Dv} {t : String} (h : tyN S d = some t) : t ∈ ["NoneType", "bool", "int", "str", "tuple", "list", "dict"] := by
  unfold tyN at h
  split at h <;> first
    | (cases h; done)
    | (cases h; decide)
    | (split at h <;> first | (cases h; done) | (cases h; decide))
theorem tyN_ok {H : Hp} {S : Sto} {d : Dv} {v : V} {t : String} (r : Rep K H v d) (hS : Abs K H S) (h : tyN S d = some t) : TyX K H v (.type t) := by
  unfold tyN at h
  split at h
  · cases h; rw [r.i_non]; exact .base .non
  · cases h; rw [r.i_bl]; exact .base (.bl _)
  · cases h; rw [r.i_int]; exact .base (.int _)
  · cases h; rw [r.i_str]; exact .base (.str _)
  · cases h
    obtain ⟨a, us, rfl, ha, la⟩ := r.i_tup
    rcases ha with (ha | ⟨o, ha⟩) | ⟨o, its, n, h1, h2, _⟩
    · exact .base (.tup ha)
    · exact .fTuple ha
    · exact .kTuple h1 h2
  · cases h
    obtain ⟨a, us, rfl, ha, la⟩ := r.i_rol
    rcases ha with ⟨o, ha⟩ | ⟨o, its, n, h1, h2, _⟩
    · exact .base (.frz ha)
    · exact .kList h1 h2
  · rename_i a
    split at h
    · rename_i xs ea
      cases h
      obtain ⟨us, h1, la⟩ := hS _ _ ea
      rw [r.i_ref]
      exact .base (.lst h1)
    · rename_i xs ea
      cases h
      obtain ⟨us, h1, la⟩ := hS _ _ ea
      rw [r.i_ref]
      exact .base (.dK h1)
    · cases h
  · cases h
def isiD (S : Sto) (d : Dv) (n : String) : Option Bool := match tyN S d with
  | some t => if tyNames.contains n = true then some (isiB t n) else none
  | none => none
def tysOf : List Dv → Option (List String)
  | [] => some []
  | .ty n :: r => (tysOf r).map fun ns => n :: ns
  | _ :: _ => none
def isiAny (S : Sto) (d : Dv) (cs : List Dv) : Option Bool := match tyN S d, tysOf cs with
  | some t, some ns => if ns.all tyNames.contains = true then some (ns.any fun n => isiB t n) else none
  | _, _ => none
def rdIsi : RDC := fun ds S Q => match ds with
  | [d, .ty n] => match isiD S d n with
    | some b => Q (.bl b) S
    | none => False
  | [d, .tup cs] => match isiAny S d cs with
    | some b => Q (.bl b) S
    | none => False
  | _ => False
theorem isiD_ok {S : Sto} {d : Dv} {n : String} {b : Bool} (h : isiD S d n = some b) : ∃ t, tyN S d = some t ∧ PySem.W.kitOne K (.type t) (.type n) = some b := by
  unfold isiD at h
  split at h
  · rename_i t ht
    split at h
    · rename_i hn
      refine ⟨t, ht, ?_⟩
      rw [kit_ty (kitB_tab t (tyN_in ht) n (by simpa using hn))]
      exact h
    · cases h
  · cases h
/-- isinstance(x, (S, T)) by a tuple of any make -/
def rIsiTA (K : PySem.W.Frag) : List V → Hp → VK → Prop := fun xs H Q => ∃ (x : V) (tp : Addr) (cs : List V) (t : Value) (us : List Value) (b : Bool), xs = [x, .ref tp] ∧ SqT K H tp cs ∧ Paired ClsV cs us ∧ TyX K H x t ∧ PySem.W.kitAny K t us = some b ∧ Q (.bl b) H
theorem call_isiTA : CallR X (.builtin "isinstance") (rIsiTA X.K) := by
  intro pins s σ H xs us Q I r h
  obtain ⟨x, tp, cs, t, ws, b, rfl, hT, k, ty, e, q⟩ := h
  obtain ⟨u1, u2, rfl, r1, r2⟩ := vals2 r
  cases (show u2 = Value.ref tp from r2)
  obtain ⟨P, Z, p, hx⟩ := kit_of I r1 ty
  obtain ⟨its, rv, ⟨o, h1, h2, n, h3⟩, hz⟩ := I.tuple hT
  have e3 := ClsV.all k rv
  subst e3
  obtain ⟨oc, od, dt, sl⟩ := o
  simp only at h2 h3
  subst h2 h3
  exact PySem.W.kia_tup Z I.kIn p h1 e hx fun tk => ⟨.bl b, H, I.tok tk, rfl, q⟩
theorem call_isiA : CallR X (.builtin "isinstance") (fun xs H Q => rIsi X.K xs H Q ∨ rIsiTA X.K xs H Q) := call_isi.or call_isiTA
theorem kitAny_tab {t : String} (ht : t ∈ ["NoneType", "bool", "int", "str", "tuple", "list", "dict"]) : ∀ ns : List String, ns.all tyNames.contains = true → PySem.W.kitAny K (.type t) (ns.map Value.type) = some (ns.any fun n => isiB t n)
  | [], _ => rfl
  | n :: ns, h => by
    rw [List.all_cons, Bool.and_eq_true] at h
    have e : PySem.W.kitOne K (.type t) (.type n) = some (isiB t n) := kit_ty (kitB_tab t ht n (by simpa using h.1))
    rw [List.map_cons, List.any_cons]
    refine kitAny_cons e (fun z => ?_) fun z => by rw [z]; rfl
    rw [z, Bool.false_or]
    exact kitAny_tab ht ns h.2
theorem tysOf_i {H : Hp} : ∀ {cs : List Dv} {vs : List V} {ns : List String}, RepL K H vs cs → tysOf cs = some ns → Paired ClsV vs (ns.map Value.type)
  | [], _, ns, r, h => by
    rw [r.nil_i]
    cases h
    exact .nil
  | c :: cs, _, ns, r, h => by
    obtain ⟨v, vs, rfl, r1, r2⟩ := r.cons_i
    cases c with
    | ty n =>
      rw [r1.i_ty]
      unfold tysOf at h
      rw [Option.map_eq_some_iff] at h
      obtain ⟨ms, h1, rfl⟩ := h
      exact .cons (.ty n) (tysOf_i r2 h1)
    | _ => unfold tysOf at h; cases h
theorem l_isi : LRC K (fun xs H Q => rIsi K xs H Q ∨ rIsiTA K xs H Q) rdIsi := by
  intro vs H ds S Qh Q r hS h k
  unfold rdIsi at h
  split at h
  · rename_i d n
    obtain ⟨v, u, rfl, r1, r2⟩ := two_i r
    split at h
    · rename_i b hb
      obtain ⟨t, ht, hk⟩ := isiD_ok (K := K) hb
      rw [r2.i_ty]
      exact .inl ⟨v, .ty n, _, _, b, rfl, .ty n, tyN_ok r1 hS ht, hk, k.now h (.bl _) hS⟩
    · exact h.elim
  · rename_i d cs
    obtain ⟨v, u, rfl, r1, r2⟩ := two_i r
    split at h
    · rename_i b hb
      obtain ⟨a, us, rfl, ha, la⟩ := r2.i_tup
      unfold isiAny at hb
      split at hb
      · rename_i t ns ht hn
        split at hb
        · rename_i hall
          cases hb
          exact .inr ⟨v, a, us, _, _, _, rfl, ha, tysOf_i la hn, tyN_ok r1 hS ht, kitAny_tab (tyN_in ht) ns hall, k.now h (.bl _) hS⟩
        · cases hb
      · cases hb
    · exact h.elim
  · exact h.elim
end
end VD

namespace VD
open PySem PySem.Spec PyProof.Rows L2

/-! ### a def keeps its promise -/
def startN (n : Nat) (ds : List Dv) : Rho := ds.map some ++ List.replicate (n - ds.length) none
/-- the reading of a def with so many names follows from its promise -/
def Rd (t : DS) (n : Nat) (sp : SpD) : Prop := ∀ ds S Q Xh, sp ds S Q Xh → t { nx := fun _ S' => Q .non S', rt := Q, ex := fun c da _ S' => Xh c da S' } (startN n ds) S
abbrev WF (E : XK) : WX := fun cls d _ H => E cls d H
section
variable {P : Program} {w : World} {K : PySem.W.Frag} {mg : Str → Option Value} {base : Heap}
theorem okD {x qual : Str} {st : Stmt} {f : Addr} {fd : FuncData} {N ps : List Str} {k : Nat} {sp : SpD} (F : Fun K x qual st f fd) (Sc : FnScope N ps (defScope st)) (len : ∀ ds S Q X, sp ds S Q X → ds.length = ps.length)
    (t : DS) (hb : ∀ (cdv : Value) (A : Around) (outer : List Env) (s : Shared) (H : Hp) (E : XK), Room k (A.deeper (envOfC qual (defScope st) s.heap.objs.size f cdv)) →
      PSs (cxOf (L2.CX P w) P w K mg base N qual (defScope st) f cdv A outer s H E) (defBody st) (lowS K (WF E) t))
    (hr : Rd t N.length sp) : FnD P w K mg base (k + 1) f fd ps sp := by
  refine Fun.okX F Sc (fun vs H Q E ⟨ds, S, Qh, Xh, r, a, h, _⟩ => by rw [r.length]; exact len _ _ _ _ h) fun cdv A outer s H vs Q E hr' ⟨ds, S, Qh, Xh, r, a, h, k1, k2⟩ => ?_
  refine ⟨_, hb cdv A outer s H E hr', startD N ds, S, _, RepS.start r, a, hr ds S Qh Xh h, ⟨fun ρ' S' σ' H' q t _ a => k1 .non S' .non H' q t .non a, k1, fun _ _ _ _ (q : False) => False.elim q, fun _ _ _ _ (q : False) => False.elim q, fun c da ρ' S' σ' H' q t _ a => k2 c da S' H' q t a⟩⟩
end

theorem tkF {P : Program} {w : World} {K : PySem.W.Frag} {mg : Str → Option Value} {base : Heap} {N : List Str} {qual : Str} {scope : Scope} {f : Addr} {cd : Value} {A : Around} {outer : List Env} {s : Shared} {H : Hp} {E : XK} :
    Takes (cxOf (L2.CX P w) P w K mg base N qual scope f cd A outer s H E) (WF E) := takes_of rfl rfl rfl rfl
theorem d_ty {X : Cx} {W : WX} {x : Str} {n : String} {pos : Pos} (hm : X.mg x = none) (hv : bootBuiltins x = some (.type n)) (hg : Gl X x := by rfl) (hn : x ≠ "__name__" := by decide) (hd : (x == ("__debug__" : Str)) = false := by decide) :
    PE X (.Name x pos) (low X.K W (dC (.ty n))) := d_bltn (v := .ty n) hm hv rfl (fun _ => .ty n) hg hn hd
/-! ### written values -/
section
variable {K : PySem.W.Frag}
theorem v_int {i : Int} {t : Tok} : VRep K (.int i t) (.int i) := .mk (v := .int i) ⟨t, rfl⟩ fun _ => .int i
theorem v_str {i : Str} {t : Tok} : VRep K (.str i t) (.str i) := .mk (v := .str i) ⟨t, rfl⟩ fun _ => .str i
theorem v_bl {i : Bool} : VRep K (.bool i) (.bl i) := .mk (v := .bl i) rfl fun _ => .bl i
theorem v_non : VRep K .none .non := .mk (v := .non) rfl fun _ => .non
theorem v_ty {n : String} : VRep K (.type n) (.ty n) := .mk (v := .ty n) rfl fun _ => .ty n
theorem v_ref {a : Addr} : VRep K (.ref a) (.ref a) := .mk (v := .ref a) rfl fun _ => .ref a
inductive VReps (K : PySem.W.Frag) : List Value → List Dv → Prop
  | nil : VReps K [] []
  | cons {u : Value} {us : List Value} {d : Dv} {ds : List Dv} : VRep K u d → VReps K us ds → VReps K (u :: us) (d :: ds)
theorem VReps.rep : ∀ {us : List Value} {ds : List Dv}, VReps K us ds → ∃ vs, Vals vs us ∧ ∀ H, RepL K H vs ds
  | _, _, .nil => ⟨[], .nil, fun _ => .nil⟩
  | _, _, .cons (.mk r h) t => by
    obtain ⟨vs, h1, h2⟩ := VReps.rep t
    exact ⟨_ :: vs, .cons r h1, fun H => .cons (h H) (h2 H)⟩
theorem v_tup {a : Addr} {us : List Value} {ds : List Dv} {dd : Option Addr} {n : Nat} {sl : Array (Option Value)} (l : K.lookup a = some ⟨.type "tuple", dd, .seq us.toArray n, sl⟩) (r : VReps K us ds) (hz : us.length ≤ sizeLine := by first | decide | (simp only [List.length_cons, List.length_nil]; decide)) : VRep K (.ref a) (.tup ds) := by
  obtain ⟨vs, h1, h2⟩ := r.rep
  exact .mk (v := .ref a) rfl fun H => .tup (.inr ⟨_, us.toArray, n, l, rfl, rfl, by simpa using hz, by simpa using h1⟩) (h2 H)
end

theorem bt_int : bootBuiltins "int" = some (.type "int") := by decide +kernel
theorem bt_bool : bootBuiltins "bool" = some (.type "bool") := by decide +kernel
theorem bt_str : bootBuiltins "str" = some (.type "str") := by decide +kernel
theorem bt_tuple : bootBuiltins "tuple" = some (.type "tuple") := by decide +kernel
theorem bt_list : bootBuiltins "list" = some (.type "list") := by decide +kernel
theorem bt_dict : bootBuiltins "dict" = some (.type "dict") := by decide +kernel
theorem bt_range : bootBuiltins "range" = some (.type "range") := by decide +kernel
theorem bt_set : bootBuiltins "set" = some (.type "set") := by decide +kernel
theorem bt_enumerate : bootBuiltins "enumerate" = some (.type "enumerate") := by decide +kernel
theorem bt_zip : bootBuiltins "zip" = some (.type "zip") := by decide +kernel
theorem bt_reversed : bootBuiltins "reversed" = some (.type "reversed") := by decide +kernel
theorem bt_len : bootBuiltins "len" = some (.builtin "len") := by decide +kernel
theorem bt_isinstance : bootBuiltins "isinstance" = some (.builtin "isinstance") := by decide +kernel
theorem bt_all : bootBuiltins "all" = some (.builtin "all") := by decide +kernel
theorem bt_any : bootBuiltins "any" = some (.builtin "any") := by decide +kernel
theorem bt_abs : bootBuiltins "abs" = some (.builtin "abs") := by decide +kernel
theorem bt_min : bootBuiltins "min" = some (.builtin "min") := by decide +kernel
theorem bt_max : bootBuiltins "max" = some (.builtin "max") := by decide +kernel
theorem bt_sum : bootBuiltins "sum" = some (.builtin "sum") := by decide +kernel
theorem bt_sorted : bootBuiltins "sorted" = some (.builtin "sorted") := by decide +kernel
theorem bt_repr : bootBuiltins "repr" = some (.builtin "repr") := by decide +kernel
theorem bt_ord : bootBuiltins "ord" = some (.builtin "ord") := by decide +kernel
theorem bt_chr : bootBuiltins "chr" = some (.builtin "chr") := by decide +kernel
/-! ### an own exception without fields -/
section
variable {X : Cx} {C : Addr} {bmB : List Value} {B newId initId : String}
theorem pmk_own0 {x : Str} {p pos : Pos} (F : ExcBaseFacts B newId initId bmB) (q : PySem.W.excIn X.K C bmB newId = true) (gC : X.mg x = some (.ref C)) (kC : PySem.W.keepIn X.K (.ref C) = true) (r : Raises X (.ref C)) (hg : Gl X x)
    (hdb : (x == ("__debug__" : Str)) = false := by decide) : PMk X (.Call (.Name x p) [] [] pos) (fun _ H Q => Q (.ref C) none H) := by
  intro pins s σ H Q I h
  refine wpAny_Call_Name_kw (ld_glob I hg gC ?_ hdb)
  refine PySem.W.callWith_K0 I.kIn kC ?_
  show wpAny _ _ (call (.ref C) []) _ _ _
  obtain ⟨bm, N, nm, qn, bs, hdct, sn, sub, ab, col, dd, k0, k1, k2, k3, k5, mN, hC, hN, hni, T⟩ := exc_obj I.kIn q
  refine wpAny_call_exc_subT F T hC hN hni (fun h' e hm => ?_) (by show 0 ≤ sizeLine; exact Nat.zero_le _)
  exact mk_of I hm r h (I.hok.gone hm.new)
/-- what the written part says of such a class -/
structure Exc0 (K : PySem.W.Frag) (C : Addr) : Prop where
  q : PySem.W.excIn K C [.type "ValueError", .type "Exception", .type "BaseException", .type "object"] "ValueError.__new__" = true
  kp : PySem.W.keepIn K (.ref C) = true
  sb : PySem.W.subIn K (.ref C) (.type "BaseException") = some true
  ty : PySem.W.typeIn K (.ref C) = some (.type "type")
def dRaise (cls : Value) : DS := fun D ρ S => D.ex cls none ρ S
theorem s_raise0 {W : WX} {x : Str} {p pos' pos : Pos} (hc : X.calm = true) (tk : Takes X W) (T : Exc0 X.K C) (gC : X.mg x = some (.ref C)) (hg : Gl X x := by rfl) (hdb : (x == ("__debug__" : Str)) = false := by decide) :
    PS X (.Raise (some (.Call (.Name x p) [] [] pos')) none pos) (lowS X.K W (dRaise (.ref C))) := psi (ps_raise hc tk (pmk_own0 PySem.F.excBase_ValueError T.q gC T.kp (raises_own T.sb T.ty) hg hdb)) fun D σ H ⟨ρ, S, Dh, hσ, hS, h, k⟩ => k.ex _ _ ρ S σ H h (Tk.refl H) hσ hS
end

/-! ### methods of lists -/
abbrev RDM := Dv → List Dv → Sto → QD → Prop
def LRM (K : PySem.W.Frag) (r : V → List V → Hp → VK → Prop) (rd : RDM) : Prop := ∀ x vs H d ds S Qh Q, Rep K H x d → RepL K H vs ds → Abs K H S → rd d ds S Qh → Lk K H Qh Q → r x vs H Q
def isLst (d : Dv) (S : Sto) : Prop := match d with
  | .ref a => match S a with
    | some (.lst _) => True
    | _ => False
  | _ => False
def dBM (rd : RDM) (do_ : DE) (das : DA) : DE := fun ρ S Q X => do_ ρ S (fun x S1 => isLst x S1 ∧ das ρ S1 (fun ds S2 => rd x ds S2 Q) X) X
section
variable {K : PySem.W.Frag} {X : Cx} {W : WX} {o e : Expr} {es : List Expr} {do_ : DE} {das : DA}
theorem isLst_ty {H : Hp} {S : Sto} {d : Dv} {v : V} (r : Rep K H v d) (hS : Abs K H S) (h : isLst d S) : tyV K "list" v H := by
  unfold isLst at h
  split at h
  · rename_i a
    split at h
    · rename_i xs ea
      obtain ⟨us, h1, l⟩ := hS _ _ ea
      rw [r.i_ref]
      exact .inl ⟨rfl, us, .inl (.inl h1)⟩
    · exact h.elim
  · exact h.elim
theorem low_bm {r : V → List V → Hp → VK → Prop} {rd : RDM} (hl : LRM X.K r rd) : ∀ σ H Q, low X.K W (dBM rd do_ das) σ H Q → tBM X.K "list" r (low X.K W do_) (lowA X.K W das) σ H Q := fun σ H Q ⟨ρ, S, Qh, Xh, hσ, hS, h, k, x⟩ =>
  ⟨ρ, S, _, Xh, hσ, hS, h, fun d S1 v H1 q t rr a => ⟨isLst_ty rr a q.1, ρ, S1, _, Xh, hσ.mono t, a, q.2, fun ds S2 vs H2 q2 t2 r2 a2 => hl v vs H2 d ds S2 Qh Q (rr.mono t2) r2 a2 q2 (k.mono (t.trans t2)), x.mono t⟩, x⟩
def rdAppend : RDM := fun x ds S Q => match x, ds with
  | .ref a, [y] => match S a with
    | some (.lst xs) => xs.length < sizeLine ∧ Q .non (put S a (.lst (xs ++ [y])))
    | _ => False
  | _, _ => False
theorem l_append : LRM K rAppend rdAppend := by
  intro x vs H d ds S Qh Q rx r hS h k
  unfold rdAppend at h
  split at h
  · rename_i a y
    obtain ⟨v, rfl, r1⟩ := one_i r
    split at h
    · rename_i xs ea
      obtain ⟨us, h1, l⟩ := hS _ _ ea
      have tw : Tk K H (upd H a (.lst (us ++ [v]))) := Tk.write h1 wr_lst
      exact ⟨a, us, v, rx.i_ref, rfl, h1, by rw [l.length]; exact h.1, k _ _ _ _ h.2 tw .non (hS.write h1 wr_lst (.mlst upd_same ((l.mono tw).append (.cons (r1.mono tw) .nil))))⟩
    · exact h.elim
  · exact h.elim
end
theorem d_bm {X : Cx} {W : WX} {o e : Expr} {es : List Expr} {do_ : DE} {das : DA} {apos cpos : Pos} {name : Str} {id : String} {r : V → List V → Hp → VK → Prop} {rd : RDM} (slot : Slot "list" name id) (hty : typeOf (.builtin id) = pure (.type "method_descriptor")) (hm : MtR X id r) (hl : LRM X.K r rd)
    (ho : PE X o (low X.K W do_)) (ha : PA X (e :: es) (lowA X.K W das)) (hbase : attributeBase o name X.env (eval o X.env) = eval o X.env := by rfl)
    (hfew : ((backTo cpos (starEach (e :: es) X.env)).all (fun x => !x.1) && (backToKw cpos (keywordEach [] X.env)).all (fun x => x.1.isSome)
      && decide ((e :: es).length + ([] : List Keyword).length + (if ([] : List Keyword).isEmpty then 0 else 1) < 30)) = true := by rfl)
    (hline : (apos.endLine == cpos.line) = true := by rfl) (hs : starEach (e :: es) X.env = (false, eval e X.env) :: starEach es X.env := by rfl) (hplain : (backTo cpos (starEach es X.env)).any (·.1) = false := by rfl) :
    PE X (.Call (.Attribute o name apos) (e :: es) [] cpos) (low X.K W (dBM rd do_ das)) := pei (pe_bm PySem.F.plainAttrs_list slot hty hm ho ha hbase hfew hline hs hplain) (low_bm hl)

/-! ### the end of a law -/
theorem only_cl {K : PySem.W.Frag} {H : Hp} {a : Addr} {ns : List Int} (hO : Only H) (h : SqL K H a (ns.map V.int)) : CL K H a (ns.map V.int) := by
  rcases h with (h | h) | h
  · rcases hO a with e | ⟨o, xs, e⟩
    · rw [h] at e; cases e
    · rw [h] at e; cases e
  · exact .inl h
  · exact .inr h
/-- a law's promise -/
def spLaw : SpD := fun ds S Q _ => ∃ ns : List Int, ds = [.rol (ns.map Dv.int)] ∧ ns.length ≤ 63 ∧ S = (fun _ => none) ∧ ∀ S', Q (.bl true) S'
theorem law_in {K : PySem.W.Frag} {H : Hp} {a : Addr} {ns : List Int} (hl : ns.length ≤ 63) (hO : Only H) (h : SqL K H a (ns.map V.int)) : lowF K spLaw [.ref a] H (fun v _ => v = .bl true) fun _ _ _ => False := by
  refine ⟨[.rol (ns.map Dv.int)], fun _ => none, fun d _ => d = .bl true, X0, .cons (.rol (only_cl hO h) (.of_ints ns)) .nil, ?_, ⟨ns, rfl, hl, rfl, fun _ => rfl⟩, ?_, ?_⟩
  · intro a m e
    cases e
  · intro d S' v H' q t r a
    have q' : d = .bl true := q
    subst q'
    exact r.i_bl
  · intro c da S' H' q
    exact False.elim q
theorem law_out {P : Program} {w : World} (H : Hp) (s : Shared) (e : Value) (s' : Shared) (h : L2.CX P w [] H s (fun _ _ _ => False) e s') : False := by
  obtain ⟨_, _, _, _, _, _, _, _, _, _, _, _, z⟩ := h
  exact z
end VD

namespace VD
open PySem PySem.Spec PyProof.Rows L2

/-- a store without the object at p -/
def rm (S : Sto) (p : Addr) : Sto := fun b => if b = p then none else S b
theorem rm_same {S : Sto} {p : Addr} : rm S p p = none := if_pos rfl
theorem rm_ne {S : Sto} {p b : Addr} (h : b ≠ p) : rm S p b = S b := if_neg h
theorem rm_sub (S : Sto) (p : Addr) : Sub (rm S p) S := fun a m e => by
  unfold rm at e
  split at e
  · cases e
  · exact e
theorem rm_put {S : Sto} {p : Addr} {m : MO} (h : S p = none) : rm (put S p m) p = S := by
  funext b
  unfold rm put
  split
  · rename_i e; rw [e, h]
  · rfl
/-- a comprehension whose element is a function of the item and leaves the store -/
theorem lc_pure {g : DG} {te : DE} {vs : List Nat} {ρ : Rho} {Q : QD} {items : List Dv} {stay : Sto → Prop} {S : Sto} (f : Dv → Dv) (hl : items.length ≤ sizeLine) (hst : ∀ p m, S p = none → stay (put S p m))
    (he : ∀ x ∈ items, ∀ (T : Sto) (K : QD), Sub S T → K (f x) T → g x (wipeD ρ vs) T fun ρ2 S2 => te ρ2 S2 K X0) (hQ : ∀ p, S p = none → Q (.ref p) (put S p (.lst (items.map f)))) : LcGo g dYes te vs ρ Q items stay S := by
  intro p hp
  refine ⟨fun i T => T = put S p (.lst ((items.take i).map f)), rfl, fun i T _ h => by rw [h]; exact hst p _ hp, fun i x T hx h => ?_, fun T h => ?_⟩
  · subst h
    refine he x (List.mem_of_getElem? hx) _ _ (Sub.new hp) ?_
    refine ⟨(items.take i).map f, put_same, ?_, ?_⟩
    · rw [List.length_map, List.length_take]
      have := (List.getElem?_eq_some_iff.mp hx).1
      omega
    · show put _ _ _ = put _ _ _
      rw [put_put, List.take_add_one, hx, List.map_append]
      rfl
  · rw [show T = _ from h, List.take_length]
    exact hQ p hp
/-- .. with one test -/
theorem lc_filter {g : DG} {tt : DT} {te : DE} {vs : List Nat} {ρ : Rho} {Q : QD} {items : List Dv} {stay : Sto → Prop} {S : Sto} (c : Dv → Bool) (f : Dv → Dv) (hl : items.length ≤ sizeLine) (hst : ∀ p m, S p = none → stay (put S p m))
    (he : ∀ x ∈ items, ∀ (T : Sto) (K : QD) (N : Sto → Prop), Sub S T → (c x = true → K (f x) T) → (c x = false → N T) → g x (wipeD ρ vs) T fun ρ2 S2 => tt ρ2 S2 (fun b S3 => if b = true then te ρ2 S3 K X0 else N S3) X0) (hQ : ∀ p, S p = none → Q (.ref p) (put S p (.lst ((items.filter c).map f)))) : LcGo g tt te vs ρ Q items stay S := by
  intro p hp
  refine ⟨fun i T => T = put S p (.lst (((items.take i).filter c).map f)), rfl, fun i T _ h => by rw [h]; exact hst p _ hp, fun i x T hx h => ?_, fun T h => ?_⟩
  · subst h
    refine he x (List.mem_of_getElem? hx) _ _ _ (Sub.new hp) (fun hc => ?_) (fun hc => ?_)
    · refine ⟨((items.take i).filter c).map f, put_same, ?_, ?_⟩
      · rw [List.length_map]
        have h1 := (List.getElem?_eq_some_iff.mp hx).1
        have h2 := List.length_filter_le c (items.take i)
        rw [List.length_take] at h2
        omega
      · show put _ _ _ = put _ _ _
        rw [put_put, List.take_add_one, hx]
        simp [List.filter_append, hc]
    · show put _ _ _ = put _ _ _
      rw [List.take_add_one, hx]
      simp [List.filter_append, hc]
  · rw [show T = _ from h, List.take_length]
    exact hQ p hp
/-- a sequence by what holds between the two -/
theorem cut_seq {a b : DS} {D : DEnds} {ρ : Rho} {S : Sto} (M : Rho → Sto → Prop) (h1 : ∀ N : Rho → Sto → Prop, (∀ ρ S, M ρ S → N ρ S) → a { D with nx := N } ρ S) (h2 : ∀ ρ S, M ρ S → b D ρ S) : dSeq a b D ρ S := h1 _ h2
/-- a loop over names and a store by an invariant -/
theorem for_go {g : DG} {tb : DS} {D : DEnds} {ρ : Rho} {items : List Dv} {stay : Sto → Prop} {S : Sto} (Wv : Nat → Rho → Sto → Prop) (h0 : Wv 0 ρ S) (hst : ∀ i ρ S, i ≤ items.length → Wv i ρ S → stay S)
    (hs : ∀ i x ρ S, items[i]? = some x → Wv i ρ S → g x ρ S fun ρ2 S2 => tb { D with nx := Wv (i + 1), ct := Wv (i + 1), bk := D.nx } ρ2 S2) (hd : ∀ ρ S, Wv items.length ρ S → D.nx ρ S) : ForGo g tb D ρ items stay S := ⟨Wv, h0, hst, hs, hd⟩
theorem atI_lt {α : Type} {xs : List α} {i : Int} (h0 : 0 ≤ i) (h : i < xs.length) : atI xs i = xs[i.toNat]? := by
  unfold atI ixN
  rw [if_pos h0, if_pos h]
  rfl
theorem atI_cons0 {α : Type} (x : α) (xs : List α) : atI (x :: xs) 0 = some x := by
  rw [atI_lt (Int.le_refl 0) (by simp)]; rfl
theorem ixN_lt {n : Nat} {i : Int} (h0 : 0 ≤ i) (h : i < n) : ixN n i = some i.toNat := by
  unfold ixN
  rw [if_pos h0, if_pos h]
theorem atI_nn {α : Type} {xs : List α} {i : Int} (h0 : 0 ≤ i) : atI xs i = xs[i.toNat]? := by
  unfold atI ixN
  rw [if_pos h0]
  by_cases h : i < xs.length
  · rw [if_pos h]; rfl
  · rw [if_neg h, List.getElem?_eq_none (by omega)]; rfl
theorem atI_0 {α : Type} {xs : List α} : atI xs 0 = xs[0]? := atI_nn (by decide)
theorem atI_1 {α : Type} {xs : List α} : atI xs 1 = xs[1]? := atI_nn (by decide)
theorem atI_2 {α : Type} {xs : List α} : atI xs 2 = xs[2]? := atI_nn (by decide)
theorem atI_3 {α : Type} {xs : List α} : atI xs 3 = xs[3]? := atI_nn (by decide)
theorem atI_4 {α : Type} {xs : List α} : atI xs 4 = xs[4]? := atI_nn (by decide)
theorem atI_5 {α : Type} {xs : List α} : atI xs 5 = xs[5]? := atI_nn (by decide)
theorem atI_6 {α : Type} {xs : List α} : atI xs 6 = xs[6]? := atI_nn (by decide)
theorem atI_7 {α : Type} {xs : List α} : atI xs 7 = xs[7]? := atI_nn (by decide)
theorem ixN_30 : ixN 3 0 = some 0 := rfl
theorem ixN_31 : ixN 3 1 = some 1 := rfl
theorem ixN_32 : ixN 3 2 = some 2 := rfl
theorem ixN_50 : ixN 5 0 = some 0 := rfl
theorem ixN_51 : ixN 5 1 = some 1 := rfl
theorem ixN_52 : ixN 5 2 = some 2 := rfl
theorem ixN_53 : ixN 5 3 = some 3 := rfl
theorem ixN_54 : ixN 5 4 = some 4 := rfl
theorem cut_take {α : Type} {xs : List α} {k : Int} (h : 0 ≤ k) : cutD xs none (some k) = xs.take k.toNat := by
  unfold cutD
  obtain ⟨n, rfl⟩ := Int.eq_ofNat_of_zero_le h
  show (xs.drop (HT.sIx xs.length 0 none)).take (HT.sIx xs.length xs.length (some (n : Int)) - HT.sIx xs.length 0 none) = _
  rw [HT.sIx_none, HT.sIx_nat, List.drop_zero, Nat.sub_zero]
  simp
theorem cut_drop {α : Type} {xs : List α} {k : Int} (h : 0 ≤ k) : cutD xs (some k) none = xs.drop k.toNat := by
  unfold cutD
  obtain ⟨n, rfl⟩ := Int.eq_ofNat_of_zero_le h
  show (xs.drop (HT.sIx xs.length 0 (some (n : Int)))).take (HT.sIx xs.length xs.length none - HT.sIx xs.length 0 (some (n : Int))) = _
  rw [HT.sIx_none, HT.sIx_nat]
  by_cases hn : n ≤ xs.length
  · rw [Nat.min_eq_left hn, show (Int.toNat (n : Int)) = n from rfl, List.take_of_length_le (by simp)]
  · rw [Nat.min_eq_right (by omega), List.drop_eq_nil_of_le (Nat.le_refl _), List.drop_eq_nil_of_le (by simp; omega)]
    simp
theorem cut_neg {α : Type} {xs : List α} {k : Nat} : cutD xs none (some (-((k : Int) + 1))) = xs.take (xs.length - (k + 1)) := by
  unfold cutD
  have e : HT.sIx xs.length xs.length (some (-((k : Int) + 1))) = xs.length - (k + 1) := by
    show (if (-((k : Int) + 1)) < 0 then (-((k : Int) + 1) + (xs.length : Int)).toNat else min (-((k : Int) + 1)).toNat xs.length) = _
    rw [if_pos (by omega)]
    omega
  rw [HT.sIx_none, e, List.drop_zero, Nat.sub_zero]
/-! equal tuples of ints -/
theorem isDL_ints : ∀ ns : List Int, isDL (ns.map Dv.int) = true
  | [] => rfl
  | n :: ns => by rw [List.map_cons]; simp [isDL, isD, isDL_ints ns]
theorem canLay_ints : ∀ ns : List Int, PyData.canLayAll0 (pyL (ns.map Dv.int)) = true
  | [] => rfl
  | n :: ns => by rw [List.map_cons]; simp [pyL, py, PyData.canLayAll0, PyData.canLay0, canLay_ints ns]
theorem depth_ints : ∀ ns : List Int, PyData.depthAll (pyL (ns.map Dv.int)) ≤ 1
  | [] => by simp [pyL, PyData.depthAll]
  | n :: ns => by
    have := depth_ints ns
    rw [List.map_cons]
    simp [pyL, py, PyData.depthAll, PyData.depth]
    omega
theorem shp_ints (ns : List Int) : shp (.tup (ns.map Dv.int)) = true := by
  unfold shp SeqAt.shaped
  have h := depth_ints ns
  simp [isD, py, isDL_ints, PyData.canLay0, canLay_ints, PyData.depth]
  omega
theorem shp_non : shp .non = true := by decide
theorem eqvL_ints : ∀ xs ys : List Int, eqvL (xs.map Dv.int) (ys.map Dv.int) = decide (xs = ys)
  | [], [] => rfl
  | [], _ :: _ => rfl
  | _ :: _, [] => rfl
  | x :: xs, y :: ys => by
    have := eqvL_ints xs ys
    unfold eqvL at this ⊢
    rw [List.map_cons, List.map_cons]
    simp only [pyL, py, PyData.eqvAll, PyData.eqv, this]
    rw [Bool.eq_iff_iff]
    simp
end VD

namespace VD
open PySem PySem.Spec PyProof.Rows L2
/-- a promise that nobody can ask for -/
theorem fn_never {P : Program} {w : World} {K : PySem.W.Frag} {mg : Str → Option Value} {base : Heap} {k : Nat} {f : Addr} {fd : FuncData} {ps : List Str} {sp : SpD} (h : ∀ ds S Q X, sp ds S Q X → False) : FnD P w K mg base k f fd ps sp :=
  ⟨fun vs H Q E ⟨ds, S, Qh, Xh, _, _, z, _⟩ => (h _ _ _ _ z).elim, fun A outer s H args us vs Q E _ _ _ _ ⟨ds, S, Qh, Xh, _, _, z, _⟩ => (h _ _ _ _ z).elim⟩
/-! ### zip, enumerate -/
def pairs (xs ys : List Dv) : List Dv := List.zipWith (fun x y => .tup [x, y]) xs ys
theorem pairs_get {xs ys : List Dv} {i : Nat} {z : Dv} (h : (pairs xs ys)[i]? = some z) : ∃ x y, xs[i]? = some x ∧ ys[i]? = some y ∧ z = .tup [x, y] := by
  unfold pairs at h
  rw [List.getElem?_zipWith] at h
  split at h
  · rename_i x y h1 h2
    cases h
    exact ⟨x, y, h1, h2, rfl⟩
  · cases h
theorem pairs_len {xs ys : List Dv} : (pairs xs ys).length = min xs.length ys.length := by unfold pairs; simp
/-- this list is still there -/
def isL (d : Dv) (S : Sto) (xs : List Dv) : Prop := lstOf d S fun zs => zs = xs
section
variable {K : PySem.W.Frag} {H0 : Hp} {a b : Addr} {us vs : List V} {xs ys : List Dv}
theorem rep2 {H : Hp} {T : Addr} {x y : V} {dx dy : Dv} (hT : H T = none) (rx : Rep K H x dx) (ry : Rep K H y dy) : Rep K (upd H T (.tup [x, y])) (.ref T) (.tup [dx, dy]) :=
  .tup (.inl (.inl upd_same)) (.cons (rx.mono (Tk.new hT)) (.cons (ry.mono (Tk.new hT)) .nil))
theorem it_zipT (h1 : SqT K H0 a us) (l1 : RepL K H0 us xs) (h2 : SqT K H0 b vs) (l2 : RepL K H0 vs ys) : ItD K H0 (RZ.ItzT K a b) (pairs xs ys) (fun _ => True) := by
  refine ⟨fun i H S z t ha _ hz => ?_, fun H S t ha _ => ⟨us, vs, t.t _ _ h1, t.t _ _ h2, ?_⟩⟩
  · obtain ⟨x, y, ex, ey, rfl⟩ := pairs_get hz
    obtain ⟨v, ev, rv⟩ := l1.get ex
    obtain ⟨u, eu, ru⟩ := l2.get ey
    refine ⟨⟨us, vs, v, u, t.t _ _ h1, t.t _ _ h2, ev, eu⟩, fun q H' ⟨T, x', y', e1, e2, e3, e4, e5⟩ => ?_⟩
    subst e1 e3
    have g1 := e4 us (t.t _ _ h1)
    have g2 := e5 vs (t.t _ _ h2)
    rw [ev] at g1; rw [eu] at g2
    cases g1; cases g2
    exact ⟨Tk.new e2, rep2 e2 (rv.mono t) (ru.mono t), ha.tup e2⟩
  · rw [pairs_len, ← l1.length, ← l2.length]
    omega
/-- a list read by its data -/
theorem lst_at {H : Hp} {S : Sto} {v : V} {d : Dv} {ds : List Dv} (r : Rep K H0 v d) (t : Tk K H0 H) (ha : Abs K H S) (s : isL d S ds) : ∃ p ws, v = .ref p ∧ SqL K H p ws ∧ RepL K H ws ds := by
  obtain ⟨p, ws, zs, e, hl, rl, rfl⟩ := lstOf_i (r.mono t) ha s
  exact ⟨p, ws, e, hl, rl⟩
theorem it_zipL {dx dy : Dv} (r1 : Rep K H0 (.ref a) dx) (r2 : Rep K H0 (.ref b) dy) : ItD K H0 (Itz K a b) (pairs xs ys) (fun S => isL dx S xs ∧ isL dy S ys) := by
  refine ⟨fun i H S z t ha st hz => ?_, fun H S t ha st => ?_⟩
  · obtain ⟨x, y, ex, ey, rfl⟩ := pairs_get hz
    obtain ⟨p, ws, e1, hl1, l1⟩ := lst_at r1 t ha st.1
    obtain ⟨p', ws', e1', hl2, l2⟩ := lst_at r2 t ha st.2
    cases e1; cases e1'
    obtain ⟨v, ev, rv⟩ := l1.get ex
    obtain ⟨u, eu, ru⟩ := l2.get ey
    refine ⟨⟨ws, ws', v, u, hl1, hl2, ev, eu⟩, fun q H' ⟨T, x', y', e1, e2, e3, e4, e5⟩ => ?_⟩
    subst e1 e3
    have g1 := e4 ws hl1
    have g2 := e5 ws' hl2
    rw [ev] at g1; rw [eu] at g2
    cases g1; cases g2
    exact ⟨Tk.new e2, rep2 e2 rv ru, ha.tup e2⟩
  · obtain ⟨p, ws, e1, hl1, l1⟩ := lst_at r1 t ha st.1
    obtain ⟨p', ws', e1', hl2, l2⟩ := lst_at r2 t ha st.2
    cases e1; cases e1'
    refine ⟨ws, ws', hl1, hl2, ?_⟩
    rw [pairs_len, ← l1.length, ← l2.length]
    omega
/-- the pairs of a count and an item -/
def counted (xs : List Dv) : List Dv := xs.mapIdx fun i x => .tup [.int i, x]
theorem counted_get {i : Nat} {z : Dv} (h : (counted xs)[i]? = some z) : ∃ x, xs[i]? = some x ∧ z = .tup [.int i, x] := by
  unfold counted at h
  rw [List.getElem?_mapIdx, Option.map_eq_some_iff] at h
  obtain ⟨x, h1, h2⟩ := h
  exact ⟨x, h1, h2.symm⟩
theorem counted_len : (counted xs).length = xs.length := by unfold counted; simp
theorem it_enumL {dx : Dv} (r1 : Rep K H0 (.ref a) dx) : ItD K H0 (Ite K a) (counted xs) (fun S => isL dx S xs) := by
  refine ⟨fun i H S z t ha st hz => ?_, fun H S t ha st => ?_⟩
  · obtain ⟨x, ex, rfl⟩ := counted_get hz
    obtain ⟨p, ws, e1, hl1, l1⟩ := lst_at r1 t ha st
    cases e1
    obtain ⟨v, ev, rv⟩ := l1.get ex
    refine ⟨⟨ws, v, hl1, ev⟩, fun q H' ⟨T, x', e1, e2, e3, e4⟩ => ?_⟩
    subst e1 e3
    have g1 := e4 ws hl1
    rw [ev] at g1
    cases g1
    exact ⟨Tk.new e2, rep2 e2 (.int _) rv, ha.tup e2⟩
  · obtain ⟨p, ws, e1, hl1, l1⟩ := lst_at r1 t ha st
    cases e1
    refine ⟨ws, hl1, ?_⟩
    rw [counted_len, ← l1.length]
    exact Nat.le_refl _
end
section
variable {X : Cx} {W : WX} {e e2 : Expr} {das : DA} {p pos tpos : Pos} {elts : List Expr} {kk : Nat}
def iZipD (das : DA) : DI := fun ρ S R X => das ρ S (fun ds S1 => match ds with
  | [.tup xs, .tup ys] => R (pairs xs ys) (fun _ => True) S1
  | [d, e] => lstOf d S1 fun xs => lstOf e S1 fun ys => R (pairs xs ys) (fun S => isL d S xs ∧ isL e S ys) S1
  | _ => False) X
theorem lstOf_imp {d : Dv} {S : Sto} {R R' : List Dv → Prop} (h : lstOf d S R) (i : ∀ xs, isL d S xs → R xs → R' xs) : lstOf d S R' := by
  unfold isL lstOf at i
  unfold lstOf at h ⊢
  split at h
  · exact i _ rfl h
  · split at h
    · rename_i hs
      simp only [hs] at i ⊢
      exact i _ rfl h
    · exact h.elim
  · exact h.elim
theorem lstOf_ex {d : Dv} {S : Sto} {R : List Dv → Prop} (h : lstOf d S R) : ∃ xs, isL d S xs ∧ R xs := by
  unfold isL
  unfold lstOf at h ⊢
  split at h
  · exact ⟨_, rfl, h⟩
  · split at h
    · rename_i hs
      simp only [hs]
      exact ⟨_, rfl, h⟩
    · exact h.elim
  · exact h.elim
theorem i_zip (hm : X.mg "zip" = none) (ha : PA X [e, e2] (lowA X.K W das)) (hg : Gl X "zip" := by rfl) (hs : starEach [e, e2] X.env = (false, eval e X.env) :: starEach [e2] X.env := by rfl) (hpl : (backTo pos (starEach [e2] X.env)).any (·.1) = false := by rfl) :
    PI X (.Tuple elts kk tpos) (.Call (.Name "zip" p) [e, e2] [] pos) (lowI X.K W (iZipD das)) := pii (RZ.pi_zipA hg hm ha hs hpl) fun σ H R ⟨ρ, S, Rh, Xh, hσ, hS, h, k, x⟩ => by
  refine ⟨ρ, S, _, Xh, hσ, hS, h, fun ds S1 vs H1 q t r a => ?_, x⟩
  dsimp only at q
  split at q
  · rename_i xs ys
    obtain ⟨v, u, rfl, r1, r2⟩ := two_i r
    obtain ⟨c, us, rfl, hc, lc⟩ := r1.i_tup
    obtain ⟨d, ws, rfl, hd, ld⟩ := r2.i_tup
    exact ⟨c, d, us, ws, rfl, .inr ⟨hc, hd, k _ _ S1 _ H1 q t a (it_zipT hc lc hd ld)⟩⟩
  · rename_i d1 d2 _
    obtain ⟨v, u, rfl, r1, r2⟩ := two_i r
    obtain ⟨xs, s1, q⟩ := lstOf_ex q
    obtain ⟨ys, s2, q⟩ := lstOf_ex q
    obtain ⟨c, us, rfl, hc, lc⟩ := lst_at r1 (Tk.refl H1) a s1
    obtain ⟨d, ws, rfl, hd, ld⟩ := lst_at r2 (Tk.refl H1) a s2
    exact ⟨c, d, us, ws, rfl, .inl ⟨hc, hd, k _ _ S1 _ H1 q t a (it_zipL r1 r2)⟩⟩
  · exact q.elim
def iEnumD (das : DA) : DI := fun ρ S R X => das ρ S (fun ds S1 => match ds with
  | [d] => lstOf d S1 fun xs => R (counted xs) (fun S => isL d S xs) S1
  | _ => False) X
theorem i_enumL (hm : X.mg "enumerate" = none) (ha : PA X [e] (lowA X.K W das)) (hg : Gl X "enumerate" := by rfl) (hs : starEach [e] X.env = [(false, eval e X.env)] := by rfl) :
    PI X (.Tuple elts kk tpos) (.Call (.Name "enumerate" p) [e] [] pos) (lowI X.K W (iEnumD das)) := pii (pi_enum hg hm ha hs) fun σ H R ⟨ρ, S, Rh, Xh, hσ, hS, h, k, x⟩ => by
  refine ⟨ρ, S, _, Xh, hσ, hS, h, fun ds S1 vs H1 q t r a => ?_, x⟩
  dsimp only at q
  split at q
  · obtain ⟨v, rfl, r1⟩ := one_i r
    obtain ⟨xs, s1, q⟩ := lstOf_ex q
    obtain ⟨c, us, rfl, hc, lc⟩ := lst_at r1 (Tk.refl H1) a s1
    exact ⟨c, us, rfl, hc, k _ _ S1 _ H1 q t a (it_enumL r1)⟩
  · exact q.elim
end
end VD

namespace VD
open PySem PySem.Spec PyProof.Rows L2
/-! ### try with except clauses (no names) -/
/-- which clause takes an exception: of each clause, the classes it is known to take or not -/
def wD : List (List (Value × Bool) × DS) → DEnds → Value → Option Addr → Rho → Sto → Prop
  | [], D, cls, da, ρ, S => D.ex cls da ρ S
  | (tab, s) :: r, D, cls, da, ρ, S => ∃ b, (cls, b) ∈ tab ∧ (b = true → s { D with ex := fun _ _ _ _ => False } ρ S) ∧ (b = false → wD r D cls da ρ S)
def dTry (b : DS) (l : List (List (Value × Bool) × DS)) : DS := fun D ρ S => b { D with ex := wD l D } ρ S
inductive HdsD (X : Cx) : List ExceptHandler → List (List (Value × Bool) × DS) → List (Value × (Addr → Value → Option Addr → TS)) → Prop
  | nil : HdsD X [] [] []
  | cons {x : Str} {c : Value} {s : DS} {tab : List (Value × Bool)} {b₀ : Stmt} {suite : List Stmt} {np pos' : Pos} {hds : List ExceptHandler} {l : List (List (Value × Bool) × DS)} {l' : List (Value × (Addr → Value → Option Addr → TS))}
      (hc : Names X x c) (ht : ∀ p ∈ tab, PySem.W.exmOne X.K p.1 c = some p.2) (hsu : ∀ (a : Addr) (pn : List (Addr × Obj)), PSs (X.suite a pn) (b₀ :: suite) (lowS X.K W0 s)) (r : HdsD X hds l l') :
      HdsD X (.ExceptHandler (some (.Name x np)) none (b₀ :: suite) pos' :: hds) ((tab, s) :: l) ((c, fun _ _ _ => lowS X.K W0 s) :: l')
theorem HdsD.ok {X : Cx} {hds : List ExceptHandler} {l : List (List (Value × Bool) × DS)} {l' : List (Value × (Addr → Value → Option Addr → TS))} (h : HdsD X hds l l') : HdsOk X hds l' := by
  induction h with
  | nil => exact .nil
  | cons hc ht hsu r ih => exact .cons hc (fun a oe cls d pn _ _ => hsu a _) ih
theorem HdsD.go {X : Cx} {W : WX} {H : Hp} {Dh : DEnds} {D : Ends} (k : LkS X.K W H Dh D) {hds : List ExceptHandler} {l : List (List (Value × Bool) × DS)} {l' : List (Value × (Addr → Value → Option Addr → TS))} (h : HdsD X hds l l') :
    ∀ cls da, LkG X.K H (wD l Dh cls da) (wMany X.K W D l' cls da) := by
  induction h with
  | nil => exact fun cls da => k.ex cls da
  | cons hc ht hsu r ih =>
    intro cls da ρ S σ' H' ⟨b, hb, hy, hn⟩ t rs a
    refine ⟨b, ht _ hb, fun e p hp => ⟨ρ, S, _, rs, a, hy e, ⟨k.nx.mono t, k.rt.mono t, k.bk.mono t, k.ct.mono t, fun _ _ _ _ _ _ q => q.elim⟩⟩, fun e => ih cls da ρ S σ' H' (hn e) t rs a⟩
theorem s_try {X : Cx} {W : WX} {body : List Stmt} {h₀ : ExceptHandler} {hds : List ExceptHandler} {b : DS} {l : List (List (Value × Bool) × DS)} {l' : List (Value × (Addr → Value → Option Addr → TS))} {pos : Pos} (tk : Takes X W)
    (hb : ∀ (W' : WX) (pn : List (Addr × Obj)) (xe : Value → Shared → Prop), Takes (X.tr pn xe) W' → PSs (X.tr pn xe) body (lowS X.K W' b)) (hh : HdsD X (h₀ :: hds) l l')
    (hs : X.stack = X.env :: X.outer := by rfl) (hf : X.env.frame = some X.env.locals := by rfl) : PS X (.Try body (h₀ :: hds) [] [] pos) (lowS X.K W (dTry b l)) :=
  psi (ps_try_many (tb := fun W' => lowS X.K W' b) hs hf tk (fun W' pn xe tk' _ => hb W' pn xe tk') hh.ok) fun D σ H ⟨ρ, S, Dh, hσ, hS, h, k⟩ =>
    ⟨ρ, S, { Dh with ex := wD l Dh }, hσ, hS, h, ⟨k.nx, k.rt, k.bk, k.ct, hh.go k⟩⟩
theorem nm_own {X : Cx} {x : Str} {c : Value} (h : X.mg x = some c) (hg : Gl X x := by rfl) (hd : (x == ("__debug__" : Str)) = false := by decide) : Names X x c := ⟨hg, hd, .inl h⟩
theorem tabs_nil {K : PySem.W.Frag} {c : Value} : ∀ p ∈ ([] : List (Value × Bool)), PySem.W.exmOne K p.1 c = some p.2 := fun _ h => by cases h
theorem tabs_cons {K : PySem.W.Frag} {c v : Value} {b : Bool} {tab : List (Value × Bool)} (h : PySem.W.exmOne K v c = some b) (r : ∀ p ∈ tab, PySem.W.exmOne K p.1 c = some p.2) : ∀ p ∈ (v, b) :: tab, PySem.W.exmOne K p.1 c = some p.2 := fun p hp => by
  rcases List.mem_cons.mp hp with rfl | hp
  · exact h
  · exact r p hp
theorem exm_mk {K : PySem.W.Frag} {S : Addr} {cls : Value} {b : Bool} (h1 : PySem.W.subIn K (.ref S) (.type "BaseException") = some true) (h2 : PySem.W.isClsIn K S = true) (h3 : PySem.W.typeIn K (.ref S) = some (.type "type")) (h4 : PySem.W.subIn K cls (.ref S) = some b) :
    PySem.W.exmOne K cls (.ref S) = some b := by
  have e1 : (PySem.W.subIn K (.ref S) (.type "BaseException") == some true) = true := by rw [h1] <;> rfl
  have e2 : ((PySem.W.clsIn K S).isSome && PySem.W.typeIn K (.ref S) == some (.type "type")) = true := by
    have h2' : (PySem.W.clsIn K S).isSome = true := h2
    rw [h2', h3] <;> rfl
  show (if (PySem.W.subIn K (.ref S) (.type "BaseException") == some true) = true then (if ((PySem.W.clsIn K S).isSome && PySem.W.typeIn K (.ref S) == some (.type "type")) = true then PySem.W.subIn K cls (.ref S) else none) else none) = some b
  rw [if_pos e1, if_pos e2]
  exact h4
/-! ### is True -/
def isBlV : Dv → Bool → Bool
  | .bl c, b => decide (c = b)
  | _, _ => false
def rdIsB (f : Bool → Bool) : RD2 := fun x y S Q => match y with
  | .bl b => Q (.bl (f (isBlV x b))) S
  | _ => False
section
variable {K : PySem.W.Frag} {X : Cx} {W : WX}
def vBl : V → Bool → Bool
  | .bl c, b => decide (c = b)
  | _, _ => false
def rIsBA : R2 := fun x y H Q => ∃ b, y = .bl b ∧ Q (.bl (vBl x b)) H
theorem op_isBA : OpR X (compareOp .Is) rIsBA := by
  intro pins s σ H x y v u Q I rx ry h
  obtain ⟨b, rfl, q⟩ := h
  cases (show u = Value.bool b from ry)
  cases x with
  | bl a => exact op_isBl pins s σ H (.bl a) (.bl b) _ _ Q I rx (show RelV (.bl b) (.bool b) from rfl) ⟨a, b, rfl, rfl, q⟩
  | ref a => cases rx; exact wpAny_is_other rfl (by intro z; cases z) ⟨.bl false, H, I, rfl, q⟩
  | non => cases rx; exact wpAny_is_other rfl (by intro z; cases z) ⟨.bl false, H, I, rfl, q⟩
  | int i => obtain ⟨t, rfl⟩ := rx; exact wpAny_is_other rfl (by intro z; cases z) ⟨.bl false, H, I, rfl, q⟩
  | str i => obtain ⟨t, rfl⟩ := rx; exact wpAny_is_other rfl (by intro z; cases z) ⟨.bl false, H, I, rfl, q⟩
  | byt i => obtain ⟨t, rfl⟩ := rx; exact wpAny_is_other rfl (by intro z; cases z) ⟨.bl false, H, I, rfl, q⟩
  | flt i => obtain ⟨t, rfl⟩ := rx; exact wpAny_is_other rfl (by intro z; cases z) ⟨.bl false, H, I, rfl, q⟩
  | ty n => cases rx; exact wpAny_is_other rfl (by intro z; cases z) ⟨.bl false, H, I, rfl, q⟩
theorem isBl_v {H : Hp} {x : V} {d : Dv} {b : Bool} (r : Rep K H x d) : vBl x b = isBlV d b := by
  cases r <;> rfl
theorem l_isB : LR2 K rIsBA (rdIsB fun b => b) := by
  intro x y H dx dy S Qh Q rx ry hS h k
  unfold rdIsB at h
  split at h
  · exact ⟨_, ry.i_bl, by rw [isBl_v rx]; exact k.now h (.bl _) hS⟩
  · exact h.elim
/-! ### str(i), int(z), z * i -/
def rdStrI : RDC := fun ds S Q => match ds with
  | [.int i] => i.natAbs.log2 < 1920 ∧ Q (.str (toString i)) S
  | _ => False
theorem l_strI : LRC K (fun xs H Q => ∃ i, xs = [.int i] ∧ i.natAbs.log2 < 1920 ∧ Q (.str (toString i)) H) rdStrI := by
  intro vs H ds S Qh Q r hS h k
  unfold rdStrI at h
  split at h
  · obtain ⟨v, rfl, rr⟩ := one_i r
    rw [rr.i_int]
    exact ⟨_, rfl, h.1, k.now h.2 (.str _) hS⟩
  · exact h.elim
def rdIntS : RDC := fun ds S Q => match ds with
  | [.str a] => ∃ n, PySem.intText? a = some n ∧ a.length ≤ 640 ∧ Q (.int n) S
  | _ => False
theorem l_intS : LRC K (fun xs H Q => ∃ a n, xs = [.str a] ∧ PySem.intText? a = some n ∧ a.length ≤ 640 ∧ Q (.int n) H) rdIntS := by
  intro vs H ds S Qh Q r hS h k
  unfold rdIntS at h
  split at h
  · obtain ⟨v, rfl, rr⟩ := one_i r
    rw [rr.i_str]
    obtain ⟨n, h1, h2, q⟩ := h
    exact ⟨_, n, rfl, h1, h2, k.now q (.int _) hS⟩
  · exact h.elim
def repStr (z : Str) (n : Int) : Str := ⟨(List.replicate n.toNat z.cps).foldl (· ++ ·) #[]⟩
def rdMulS : RD2 := fun x y S Q => match x, y with
  | .str z, .int n => (2 ≤ n ∧ n ≤ 1000 ∧ 0 < z.length ∧ z.length ≤ 1000) ∧ Q (.str (repStr z n)) S
  | _, _ => False
/-! ### dicts written out -/
def dDict0 : DE := fun ρ S Q _ => ∀ p, S p = none → Q (.ref p) (put S p (.dK []))
theorem d_dict0 {pos : Pos} : PE X (.Dict [] [] pos) (low X.K W dDict0) := pei pe_dnewK fun σ H Q ⟨ρ, S, Qh, Xh, hσ, hS, h, k, x⟩ p hp =>
  k _ _ _ _ (h p (hS.free hp)) (Tk.new hp) (.ref p) (hS.new hp (.mdK upd_same .nil))
/-- one pair -/
def dDict1 (dk dv : DE) : DE := fun ρ S Q X => ∀ p, S p = none → dk ρ (put S p (.dK [])) (fun x S1 => dv ρ S1 (fun y S2 => S2 p = some (.dK []) ∧ match x with
  | .str z => Q (.ref p) (put S2 p (.dK [(.inr z, y)]))
  | .int z => Q (.ref p) (put S2 p (.dK [(.inl z, y)]))
  | _ => False) X) X
theorem d_dict1 {pos : Pos} {ek ev : Expr} {dk dv : DE} (hk : PE X ek (low X.K W dk)) (hv : PE X ev (low X.K W dv)) : PE X (.Dict [some ek] [ev] pos) (low X.K W (dDict1 dk dv)) :=
  pei (pe_disp (pps_cons hk hv pps_nil) rfl rfl (by simp) (by simp)) fun σ H Q ⟨ρ, S, Qh, Xh, hσ, hS, h, k, x⟩ p hp => by
    have t0 : Tk X.K H (upd H p (.dK [])) := Tk.new hp
    refine ⟨ρ, _, _, Xh, hσ.mono t0, hS.new hp (.mdK upd_same .nil), h p (hS.free hp), fun d1 S1 v1 H1 q1 t1 r1 a1 => ?_, x.mono t0⟩
    refine ⟨ρ, S1, _, Xh, hσ.mono (t0.trans t1), a1, q1, fun d2 S2 v2 H2 q2 t2 r2 a2 => ?_, x.mono (t0.trans t1)⟩
    obtain ⟨e, q2⟩ := q2
    obtain ⟨gs, e1, e2⟩ := a2 p _ e
    cases e2
    have t3 : Tk X.K H2 (upd H2 p (.dK [])) := Tk.write e1 wr_dK
    have fin : ∀ z : Key, Qh (.ref p) (put S2 p (.dK [(z, d2)])) → Q (.ref p) (upd H2 p (.dK (mergeK [] [(z, v2)]))) := fun z q => by
      have t4 : Tk X.K H2 (upd H2 p (.dK (mergeK [] [(z, v2)]))) := Tk.write e1 wr_dK
      exact k _ _ _ _ q (((t0.trans t1).trans t2).trans t4) (.ref p) (a2.write e1 wr_dK (.mdK upd_same (.cons ⟨rfl, r2.mono t4⟩ .nil)))
    cases d1 with
    | str z =>
      have e5 := (r1.mono t2).i_str
      subst e5
      exact ⟨e1, [(.inr z, v2)], rfl, by simp, fin _ q2⟩
    | int z =>
      have e5 := (r1.mono t2).i_int
      subst e5
      exact ⟨e1, [(.inl z, v2)], rfl, by simp, fin _ q2⟩
    | _ => exact q2.elim
def rMulS : R2 := fun x y H Q => ∃ z n, x = .str z ∧ y = .int n ∧ (2 ≤ n ∧ n ≤ 1000 ∧ 0 < z.length ∧ z.length ≤ 1000) ∧ Q (.str (repStr z n)) H
theorem op_mulS : OpR X (binaryOp .Mult) rMulS := by
  intro pins s σ H x y v u Q I rx ry h
  obtain ⟨z, n, rfl, rfl, ⟨h1, h2, h3, h4⟩, q⟩ := h
  obtain ⟨t, rfl⟩ := rx
  obtain ⟨t2, rfl⟩ := ry
  have c : (n == 1 || z.length == 0) = false := by
    rw [Bool.or_eq_false_iff]
    exact ⟨by simp; omega, by simp; omega⟩
  have hlen : z.length * n.toNat ≤ 1000 * 1000 := Nat.mul_le_mul h4 (by omega)
  refine P.mul_str ?_ (fun _ _ => ?_) (fun _ _ => ?_) ?_
  · rw [decide_eq_false (by omega), decide_eq_false (by omega)]; rfl
  · have : (1000 : Int) ≤ (2 ^ 63 - 1 : Int) / n := Int.le_ediv_of_mul_le (by omega) (by omega)
    omega
  · unfold Builtin.Str.tooLong
    rw [decide_eq_false]
    rw [sizeLine_eq]
    omega
  · rw [if_neg (by omega), if_neg (by rw [c]; decide)]
    have hl : ∀ (k : Nat) (acc : Array Nat), ((List.replicate k z.cps).foldl (· ++ ·) acc).size = acc.size + k * z.cps.size := by
      intro k
      induction k with
      | zero => intro acc; simp
      | succ k ih => intro acc; rw [List.replicate_succ, List.foldl_cons, ih]; simp [Nat.add_mul]; omega
    refine ⟨?_, .str (repStr z n), H, I.tok _, ⟨_, rfl⟩, q⟩
    show (((List.replicate n.toNat z.cps).foldl (· ++ ·) #[]).size : Nat) ≤ sizeLine
    rw [hl, sizeLine_eq]
    have : n.toNat * z.cps.size ≤ 1000 * 1000 := Nat.mul_le_mul (by omega) h4
    simp
    omega
theorem l_mulS : LR2 K rMulS rdMulS := by
  intro x y H dx dy S Qh Q rx ry hS h k
  unfold rdMulS at h
  split at h
  · exact ⟨_, _, rx.i_str, ry.i_int, h.1, k.now h.2 (.str _) hS⟩
  · exact h.elim
end
end VD

namespace Lw
open PySem PySem.Spec PyProof.Rows L2 VD
/-! ### kinds of things -/
def known (S : Sto) (d : Dv) : Prop := ∃ t, tyN S d = some t
theorem known.new {S : Sto} {d : Dv} {p : Addr} {m : MO} (h : known S d) (hp : S p = none) : known (put S p m) d := by
  obtain ⟨t, h⟩ := h
  unfold known
  cases d with
  | ref a =>
    dsimp only [tyN] at h ⊢
    by_cases e : a = p
    · subst e; rw [hp] at h; cases h
    · rw [put_ne e]; exact ⟨t, h⟩
  | _ => exact ⟨t, h⟩
theorem known.sub {S T : Sto} {d : Dv} (h : known S d) (s : Sub S T) : known T d := by
  obtain ⟨t, h⟩ := h
  unfold known
  cases d with
  | ref a =>
    dsimp only [tyN] at h ⊢
    cases e : S a with
    | none => rw [e] at h; cases h
    | some m =>
      rw [s a m e]
      rw [e] at h
      exact ⟨t, h⟩
  | _ => exact ⟨t, h⟩
def isInt : Dv → Bool
  | .int _ => true
  | _ => false
def isBl : Dv → Bool
  | .bl _ => true
  | _ => false
def isTup : Dv → Bool
  | .tup _ => true
  | _ => false
def isStr : Dv → Bool
  | .str _ => true
  | _ => false
theorem isi_of {S : Sto} {d : Dv} {n : String} {Q : QD} {b : Bool} (h : known S d) (hn : tyNames.contains n = true) (hb : ∀ t, tyN S d = some t → isiB t n = b) (q : Q (.bl b) S) : rdIsi [d, .ty n] S Q := by
  obtain ⟨t, h⟩ := h
  unfold rdIsi isiD
  simp only [h, hn, if_true]
  rw [hb t h]
  exact q
theorem tyN_ref {S : Sto} {a : Addr} {t : String} (h : tyN S (.ref a) = some t) : t = "list" ∨ t = "dict" := by
  dsimp only [tyN] at h
  split at h
  · cases h; exact .inl rfl
  · cases h; exact .inr rfl
  · cases h
theorem isi_int {S : Sto} {d : Dv} {Q : QD} (h : known S d) (q : Q (.bl (isInt d || isBl d)) S) : rdIsi [d, .ty "int"] S Q := isi_of h (by decide) (fun t ht => by
  cases d with
  | ref a => rcases tyN_ref ht with rfl | rfl <;> rfl
  | ty n => cases ht
  | _ => cases ht; rfl) q
theorem isi_bool {S : Sto} {d : Dv} {Q : QD} (h : known S d) (q : Q (.bl (isBl d)) S) : rdIsi [d, .ty "bool"] S Q := isi_of h (by decide) (fun t ht => by
  cases d with
  | ref a => rcases tyN_ref ht with rfl | rfl <;> rfl
  | ty n => cases ht
  | _ => cases ht; rfl) q
theorem isi_tuple {S : Sto} {d : Dv} {Q : QD} (h : known S d) (q : Q (.bl (isTup d)) S) : rdIsi [d, .ty "tuple"] S Q := isi_of h (by decide) (fun t ht => by
  cases d with
  | ref a => rcases tyN_ref ht with rfl | rfl <;> rfl
  | ty n => cases ht
  | _ => cases ht; rfl) q
theorem isi_str {S : Sto} {d : Dv} {Q : QD} (h : known S d) (q : Q (.bl (isStr d)) S) : rdIsi [d, .ty "str"] S Q := isi_of h (by decide) (fun t ht => by
  cases d with
  | ref a => rcases tyN_ref ht with rfl | rfl <;> rfl
  | ty n => cases ht
  | _ => cases ht; rfl) q
/-! ### checks -/
def sp_is_integer : SpD := fun ds S Q _ => ∃ d, ds = [d] ∧ known S d ∧ Q (.bl (isInt d)) S
theorem len_is_integer : ∀ ds S Q X, sp_is_integer ds S Q X → ds.length = 1 := by rintro _ _ _ _ ⟨_, rfl, _⟩; rfl
def r_is_integer : DS := (dRet (dAndV (dCB rdIsi (dCons (dVar 0) (dCons (dC (.ty "int")) dNil))) (dNotV (dCB rdIsi (dCons (dVar 0) (dCons (dC (.ty "bool")) dNil))))))
theorem rd_is_integer : Rd r_is_integer 1 sp_is_integer := by
  rintro ds S Q X ⟨d, rfl, hk, h⟩
  unfold r_is_integer
  simp only [dSeq, dAsg, dRet, dRetN, dIfS, dNext, dDrop, dRaise, dBreak, dCont, dTest, dOp, dVar, dC, dCB, dCons, dNil, dCall, dAndV, dOrV, dNotV, dAndT, dOrT, dNotT, dIf, dTup, dLst, dSl, oSome, oNone, dNeg, gN, gT, gConsD, gNilD, gSubD, dChain, dPar, dAug, dLc, dFor, dBM, isLst, iSeqD, iR1, iR2, iR3, dYes, rdAdd, rdSub, rdMul, rdDiv, rdMod, rdPow, rdIAdd, rdCmp, rdIsN, isNon, rdEqG, rdIx, rdSet, rdSl, rdLen, rdInt1, rdInt, rdInt2, rdAppend, startN, wipeD, List.map_cons, List.map_nil, List.length_cons, List.length_nil, Nat.zero_add, Nat.sub_self, Nat.reduceAdd, Nat.reduceSub, List.replicate_succ, List.replicate_zero, List.cons_append, List.nil_append, List.append_nil, List.getElem?_cons_zero, List.getElem?_cons_succ, List.set_cons_zero, List.set_cons_succ, Option.some.injEq, exists_eq_left', DEnds.xd, atI_0, atI_1, atI_2, atI_3, atI_4, atI_5, atI_6, atI_7, ixN_50, ixN_51, ixN_52, ixN_53, ixN_54, ixN_30, ixN_31, ixN_32, put_same, put_put, true_and, and_true]
  refine isi_int hk ?_
  cases e : (isInt d || isBl d) with
  | true =>
    refine isi_bool hk ?_
    cases d <;> first | exact h | simp [isInt, isBl] at e
  | false =>
    cases d <;> first | exact h | simp [isInt, isBl] at e
def within (d : Dv) (a b : Int) : Bool := match d with
  | .int i => decide (a ≤ i) && decide (i ≤ b)
  | _ => false
def sp_is_within : SpD := fun ds S Q _ => ∃ d a b, ds = [d, .int a, .int b] ∧ known S d ∧ Q (.bl (within d a b)) S
theorem len_is_within : ∀ ds S Q X, sp_is_within ds S Q X → ds.length = 3 := by rintro _ _ _ _ ⟨_, _, _, rfl, _⟩; rfl
def r_is_within : DS := (dRet (dAndV (dCall sp_is_integer (dCons (dVar 0) dNil)) (dChain rdLe rdLe (dVar 1) (dVar 0) (dVar 2))))
theorem rd_is_within : Rd r_is_within 3 sp_is_within := by
  rintro ds S Q X ⟨d, a, b, rfl, hk, h⟩
  unfold r_is_within
  simp only [dSeq, dAsg, dRet, dRetN, dIfS, dNext, dDrop, dRaise, dBreak, dCont, dTest, dOp, dVar, dC, dCB, dCons, dNil, dCall, dAndV, dOrV, dNotV, dAndT, dOrT, dNotT, dIf, dTup, dLst, dSl, oSome, oNone, dNeg, gN, gT, gConsD, gNilD, gSubD, dChain, dPar, dAug, dLc, dFor, dBM, isLst, iSeqD, iR1, iR2, iR3, dYes, rdAdd, rdSub, rdMul, rdDiv, rdMod, rdPow, rdIAdd, rdCmp, rdIsN, isNon, rdEqG, rdIx, rdSet, rdSl, rdLen, rdInt1, rdInt, rdInt2, rdAppend, startN, wipeD, List.map_cons, List.map_nil, List.length_cons, List.length_nil, Nat.zero_add, Nat.sub_self, Nat.reduceAdd, Nat.reduceSub, List.replicate_succ, List.replicate_zero, List.cons_append, List.nil_append, List.append_nil, List.getElem?_cons_zero, List.getElem?_cons_succ, List.set_cons_zero, List.set_cons_succ, Option.some.injEq, exists_eq_left', DEnds.xd, atI_0, atI_1, atI_2, atI_3, atI_4, atI_5, atI_6, atI_7, ixN_50, ixN_51, ixN_52, ixN_53, ixN_54, ixN_30, ixN_31, ixN_32, put_same, put_put, true_and, and_true]
  refine ⟨d, rfl, hk, ?_⟩
  cases d with
  | int i =>
    unfold within at h
    unfold isInt
    dsimp only
    simp only [dSeq, dAsg, dRet, dRetN, dIfS, dNext, dDrop, dRaise, dBreak, dCont, dTest, dOp, dVar, dC, dCB, dCons, dNil, dCall, dAndV, dOrV, dNotV, dAndT, dOrT, dNotT, dIf, dTup, dLst, dSl, oSome, oNone, dNeg, gN, gT, gConsD, gNilD, gSubD, dChain, dPar, dAug, dLc, dFor, dBM, isLst, iSeqD, iR1, iR2, iR3, dYes, rdAdd, rdSub, rdMul, rdDiv, rdMod, rdPow, rdIAdd, rdCmp, rdIsN, isNon, rdEqG, rdIx, rdSet, rdSl, rdLen, rdInt1, rdInt, rdInt2, rdAppend, startN, wipeD, List.map_cons, List.map_nil, List.length_cons, List.length_nil, Nat.zero_add, Nat.sub_self, Nat.reduceAdd, Nat.reduceSub, List.replicate_succ, List.replicate_zero, List.cons_append, List.nil_append, List.append_nil, List.getElem?_cons_zero, List.getElem?_cons_succ, List.set_cons_zero, List.set_cons_succ, Option.some.injEq, exists_eq_left', DEnds.xd, atI_0, atI_1, atI_2, atI_3, atI_4, atI_5, atI_6, atI_7, ixN_50, ixN_51, ixN_52, ixN_53, ixN_54, ixN_30, ixN_31, ixN_32, put_same, put_put, true_and, and_true]
    by_cases h1 : a ≤ i
    · simp only [h1, decide_true, Bool.true_and] at h ⊢
      exact h
    · simp only [h1, decide_false, Bool.false_and] at h ⊢
      exact h
  | _ => exact h
def sp_is_below : SpD := fun ds S Q _ => ∃ d n, ds = [d, .int n] ∧ known S d ∧ Q (.bl (within d 0 (n - 1))) S
theorem len_is_below : ∀ ds S Q X, sp_is_below ds S Q X → ds.length = 2 := by rintro _ _ _ _ ⟨_, _, rfl, _⟩; rfl
def r_is_below : DS := (dRet (dCall sp_is_within (dCons (dVar 0) (dCons (dC (.int 0)) (dCons (dOp rdSub (dVar 1) (dC (.int 1))) dNil)))))
theorem rd_is_below : Rd r_is_below 2 sp_is_below := by
  rintro ds S Q X ⟨d, n, rfl, hk, h⟩
  unfold r_is_below
  simp only [dSeq, dAsg, dRet, dRetN, dIfS, dNext, dDrop, dRaise, dBreak, dCont, dTest, dOp, dVar, dC, dCB, dCons, dNil, dCall, dAndV, dOrV, dNotV, dAndT, dOrT, dNotT, dIf, dTup, dLst, dSl, oSome, oNone, dNeg, gN, gT, gConsD, gNilD, gSubD, dChain, dPar, dAug, dLc, dFor, dBM, isLst, iSeqD, iR1, iR2, iR3, dYes, rdAdd, rdSub, rdMul, rdDiv, rdMod, rdPow, rdIAdd, rdCmp, rdIsN, isNon, rdEqG, rdIx, rdSet, rdSl, rdLen, rdInt1, rdInt, rdInt2, rdAppend, startN, wipeD, List.map_cons, List.map_nil, List.length_cons, List.length_nil, Nat.zero_add, Nat.sub_self, Nat.reduceAdd, Nat.reduceSub, List.replicate_succ, List.replicate_zero, List.cons_append, List.nil_append, List.append_nil, List.getElem?_cons_zero, List.getElem?_cons_succ, List.set_cons_zero, List.set_cons_succ, Option.some.injEq, exists_eq_left', DEnds.xd, atI_0, atI_1, atI_2, atI_3, atI_4, atI_5, atI_6, atI_7, ixN_50, ixN_51, ixN_52, ixN_53, ixN_54, ixN_30, ixN_31, ixN_32, put_same, put_put, true_and, and_true]
  exact ⟨d, 0, n - 1, rfl, hk, h⟩
/-! ### rows -/
def isRow (d : Dv) : Bool := match d with
  | .tup xs => decide ((xs.length : Int) ≤ 300000) && xs.all fun x => within x 0 255
  | _ => false
def knownL (S : Sto) (d : Dv) : Prop := known S d ∧ match d with
  | .tup xs => ∀ x ∈ xs, known S x
  | _ => True
def sp_is_row : SpD := fun ds S Q _ => ∃ d, ds = [d] ∧ knownL S d ∧ Q (.bl (isRow d)) S
theorem len_is_row : ∀ ds S Q X, sp_is_row ds S Q X → ds.length = 1 := by rintro _ _ _ _ ⟨_, rfl, _⟩; rfl
def r_is_row : DS := (dRet (dAndV (dCB rdIsi (dCons (dVar 0) (dCons (dC (.ty "tuple")) dNil))) (dAndV (dOp rdLe (dCB rdLen (dCons (dVar 0) dNil)) (dC (.int 300000))) (dCB rdAll (dCons (dLc (iSeqD (dVar 0)) (gN 1) dYes (dCall sp_is_below (dCons (dVar 1) (dCons (dC (.int 256)) dNil))) [1]) dNil)))))
theorem all_map {xs : List Dv} {f : Dv → Bool} : ∃ bs : List Bool, xs.map (fun x => Dv.bl (f x)) = bs.map Dv.bl ∧ bs.all id = xs.all f := by
  refine ⟨xs.map f, by rw [List.map_map]; rfl, ?_⟩
  induction xs with
  | nil => rfl
  | cons x xs ih => simp [ih]
theorem rd_is_row : Rd r_is_row 2 sp_is_row := by
  rintro ds S Q X ⟨d, rfl, ⟨hk, hl⟩, h⟩
  unfold r_is_row
  simp only [dSeq, dAsg, dRet, dRetN, dIfS, dNext, dDrop, dRaise, dBreak, dCont, dTest, dOp, dVar, dC, dCB, dCons, dNil, dCall, dAndV, dOrV, dNotV, dAndT, dOrT, dNotT, dIf, dTup, dLst, dSl, oSome, oNone, dNeg, gN, gT, gConsD, gNilD, gSubD, dChain, dPar, dAug, dLc, dFor, dBM, isLst, iSeqD, iR1, iR2, iR3, dYes, rdAdd, rdSub, rdMul, rdDiv, rdMod, rdPow, rdIAdd, rdCmp, rdIsN, isNon, rdEqG, rdIx, rdSet, rdSl, rdLen, rdInt1, rdInt, rdInt2, rdAppend, startN, wipeD, List.map_cons, List.map_nil, List.length_cons, List.length_nil, Nat.zero_add, Nat.sub_self, Nat.reduceAdd, Nat.reduceSub, List.replicate_succ, List.replicate_zero, List.cons_append, List.nil_append, List.append_nil, List.getElem?_cons_zero, List.getElem?_cons_succ, List.set_cons_zero, List.set_cons_succ, Option.some.injEq, exists_eq_left', DEnds.xd, atI_0, atI_1, atI_2, atI_3, atI_4, atI_5, atI_6, atI_7, ixN_50, ixN_51, ixN_52, ixN_53, ixN_54, ixN_30, ixN_31, ixN_32, put_same, put_put, true_and, and_true]
  refine isi_tuple hk ?_
  cases d with
  | tup xs =>
    unfold isTup
    dsimp only
    unfold isRow at h
    by_cases h1 : (xs.length : Int) ≤ 300000
    · simp only [h1, decide_true, Bool.true_and] at h ⊢
      refine lc_pure (fun x => Dv.bl (within x 0 255)) (by rw [sizeLine_eq]; omega) (fun _ _ _ => trivial) (fun x hx T Kq hs hq => ?_) fun p hp => ?_
      · simp only [dSeq, dAsg, dRet, dRetN, dIfS, dNext, dDrop, dRaise, dBreak, dCont, dTest, dOp, dVar, dC, dCB, dCons, dNil, dCall, dAndV, dOrV, dNotV, dAndT, dOrT, dNotT, dIf, dTup, dLst, dSl, oSome, oNone, dNeg, gN, gT, gConsD, gNilD, gSubD, dChain, dPar, dAug, dLc, dFor, dBM, isLst, iSeqD, iR1, iR2, iR3, dYes, rdAdd, rdSub, rdMul, rdDiv, rdMod, rdPow, rdIAdd, rdCmp, rdIsN, isNon, rdEqG, rdIx, rdSet, rdSl, rdLen, rdInt1, rdInt, rdInt2, rdAppend, startN, wipeD, List.map_cons, List.map_nil, List.length_cons, List.length_nil, Nat.zero_add, Nat.sub_self, Nat.reduceAdd, Nat.reduceSub, List.replicate_succ, List.replicate_zero, List.cons_append, List.nil_append, List.append_nil, List.getElem?_cons_zero, List.getElem?_cons_succ, List.set_cons_zero, List.set_cons_succ, Option.some.injEq, exists_eq_left', DEnds.xd, atI_0, atI_1, atI_2, atI_3, atI_4, atI_5, atI_6, atI_7, ixN_50, ixN_51, ixN_52, ixN_53, ixN_54, ixN_30, ixN_31, ixN_32, put_same, put_put, true_and, and_true]
        exact ⟨x, 256, rfl, (hl x hx).sub hs, hq⟩
      · unfold rdAll lstOf
        dsimp only
        rw [put_same]
        obtain ⟨bs, e1, e2⟩ := all_map (xs := xs) (f := fun x => within x 0 255)
        refine ⟨bs, e1, S, Sub.new hp, ?_⟩
        rw [e2]
        exact h
    · simp only [h1, decide_false, Bool.false_and] at h ⊢
      exact h
  | _ => exact h
def sp_check_row (c_NoRow : Addr) : SpD := fun ds S Q X => ∃ d, ds = [d] ∧ knownL S d ∧ if isRow d = true then Q .non S else X (.ref c_NoRow) none S
theorem len_check_row (c_NoRow : Addr) : ∀ ds S Q X, sp_check_row c_NoRow ds S Q X → ds.length = 1 := by rintro _ _ _ _ ⟨_, rfl, _⟩; rfl
def r_check_row (c_NoRow : Addr) : DS := (dIfS (dNotT (dTest (dCall sp_is_row (dCons (dVar 0) dNil)))) (dRaise (.ref c_NoRow)) dNext)
theorem rd_check_row (c_NoRow : Addr) : Rd (r_check_row c_NoRow) 1 (sp_check_row c_NoRow) := by
  rintro ds S Q X ⟨d, rfl, hk, h⟩
  unfold r_check_row
  simp only [dSeq, dAsg, dRet, dRetN, dIfS, dNext, dDrop, dRaise, dBreak, dCont, dTest, dOp, dVar, dC, dCB, dCons, dNil, dCall, dAndV, dOrV, dNotV, dAndT, dOrT, dNotT, dIf, dTup, dLst, dSl, oSome, oNone, dNeg, gN, gT, gConsD, gNilD, gSubD, dChain, dPar, dAug, dLc, dFor, dBM, isLst, iSeqD, iR1, iR2, iR3, dYes, rdAdd, rdSub, rdMul, rdDiv, rdMod, rdPow, rdIAdd, rdCmp, rdIsN, isNon, rdEqG, rdIx, rdSet, rdSl, rdLen, rdInt1, rdInt, rdInt2, rdAppend, startN, wipeD, List.map_cons, List.map_nil, List.length_cons, List.length_nil, Nat.zero_add, Nat.sub_self, Nat.reduceAdd, Nat.reduceSub, List.replicate_succ, List.replicate_zero, List.cons_append, List.nil_append, List.append_nil, List.getElem?_cons_zero, List.getElem?_cons_succ, List.set_cons_zero, List.set_cons_succ, Option.some.injEq, exists_eq_left', DEnds.xd, atI_0, atI_1, atI_2, atI_3, atI_4, atI_5, atI_6, atI_7, ixN_50, ixN_51, ixN_52, ixN_53, ixN_54, ixN_30, ixN_31, ixN_32, put_same, put_put, true_and, and_true]
  refine ⟨d, rfl, hk, ?_⟩
  cases e : isRow d with
  | true => rw [if_pos e] at h; exact h
  | false => rw [if_neg (by rw [e]; decide)] at h; exact h
/-! ### marks -/
def markF (m : Int) (ns : List Int) : Int := ns.foldl (fun f b => (f * 1000003 + b + 1) % 2305843009213693951) m
theorem markF_snoc (m : Int) (ns : List Int) (b : Int) : markF m (ns ++ [b]) = (markF m ns * 1000003 + b + 1) % 2305843009213693951 := by
  unfold markF
  rw [List.foldl_append]
  rfl
def sp_marked : SpD := fun ds S Q _ => ∃ m ns, ds = [.int m, .tup (List.map Dv.int ns)] ∧ Q (.int (markF m ns)) S
theorem len_marked : ∀ ds S Q X, sp_marked ds S Q X → ds.length = 2 := by rintro _ _ _ _ ⟨_, _, rfl, _⟩; rfl
def r_marked : DS := (dSeq (dAsg (dVar 0) (gN 2))
    (dSeq (dFor (iSeqD (dVar 1)) (gN 3) (dAsg (dOp rdMod (dOp rdAdd (dOp rdAdd (dOp rdMul (dVar 2) (dC (.int 1000003))) (dVar 3)) (dC (.int 1))) (dC (.int 2305843009213693951))) (gN 2)))
    (dRet (dVar 2))))
theorem map_get {α β : Type} {f : α → β} {xs : List α} {i : Nat} {y : β} (h : (xs.map f)[i]? = some y) : ∃ x, xs[i]? = some x ∧ y = f x := by
  rw [List.getElem?_map, Option.map_eq_some_iff] at h
  obtain ⟨x, h1, h2⟩ := h
  exact ⟨x, h1, h2.symm⟩
theorem rd_marked : Rd r_marked 4 sp_marked := by
  rintro ds S Q X ⟨m, ns, rfl, h⟩
  unfold r_marked
  simp only [dSeq, dAsg, dRet, dRetN, dIfS, dNext, dDrop, dRaise, dBreak, dCont, dTest, dOp, dVar, dC, dCB, dCons, dNil, dCall, dAndV, dOrV, dNotV, dAndT, dOrT, dNotT, dIf, dTup, dLst, dSl, oSome, oNone, dNeg, gN, gT, gConsD, gNilD, gSubD, dChain, dPar, dAug, dLc, dFor, dBM, isLst, iSeqD, iR1, iR2, iR3, dYes, rdAdd, rdSub, rdMul, rdDiv, rdMod, rdPow, rdIAdd, rdCmp, rdIsN, isNon, rdEqG, rdIx, rdSet, rdSl, rdLen, rdInt1, rdInt, rdInt2, rdAppend, startN, wipeD, List.map_cons, List.map_nil, List.length_cons, List.length_nil, Nat.zero_add, Nat.sub_self, Nat.reduceAdd, Nat.reduceSub, List.replicate_succ, List.replicate_zero, List.cons_append, List.nil_append, List.append_nil, List.getElem?_cons_zero, List.getElem?_cons_succ, List.set_cons_zero, List.set_cons_succ, Option.some.injEq, exists_eq_left', DEnds.xd, atI_0, atI_1, atI_2, atI_3, atI_4, atI_5, atI_6, atI_7, ixN_50, ixN_51, ixN_52, ixN_53, ixN_54, ixN_30, ixN_31, ixN_32, put_same, put_put, true_and, and_true]
  refine for_go (fun i ρ T => T = S ∧ ∃ y, ρ = [some (.int m), some (.tup (List.map Dv.int ns)), some (.int (markF m (ns.take i))), y]) ⟨rfl, _, rfl⟩ (fun _ _ _ _ _ => trivial) (fun i x ρ T hx hw => ?_) fun ρ T hw => ?_
  · obtain ⟨rfl, y, rfl⟩ := hw
    obtain ⟨b, hb, rfl⟩ := map_get hx
    simp only [dSeq, dAsg, dRet, dRetN, dIfS, dNext, dDrop, dRaise, dBreak, dCont, dTest, dOp, dVar, dC, dCB, dCons, dNil, dCall, dAndV, dOrV, dNotV, dAndT, dOrT, dNotT, dIf, dTup, dLst, dSl, oSome, oNone, dNeg, gN, gT, gConsD, gNilD, gSubD, dChain, dPar, dAug, dLc, dFor, dBM, isLst, iSeqD, iR1, iR2, iR3, dYes, rdAdd, rdSub, rdMul, rdDiv, rdMod, rdPow, rdIAdd, rdCmp, rdIsN, isNon, rdEqG, rdIx, rdSet, rdSl, rdLen, rdInt1, rdInt, rdInt2, rdAppend, startN, wipeD, List.map_cons, List.map_nil, List.length_cons, List.length_nil, Nat.zero_add, Nat.sub_self, Nat.reduceAdd, Nat.reduceSub, List.replicate_succ, List.replicate_zero, List.cons_append, List.nil_append, List.append_nil, List.getElem?_cons_zero, List.getElem?_cons_succ, List.set_cons_zero, List.set_cons_succ, Option.some.injEq, exists_eq_left', DEnds.xd, atI_0, atI_1, atI_2, atI_3, atI_4, atI_5, atI_6, atI_7, ixN_50, ixN_51, ixN_52, ixN_53, ixN_54, ixN_30, ixN_31, ixN_32, put_same, put_put, true_and, and_true]
    refine ⟨mulok_r (by decide) (by decide), by decide, some (.int b), ?_⟩
    rw [List.take_add_one, hb, Option.toList_some, markF_snoc]
  · obtain ⟨rfl, y, rfl⟩ := hw
    simp only [dSeq, dAsg, dRet, dRetN, dIfS, dNext, dDrop, dRaise, dBreak, dCont, dTest, dOp, dVar, dC, dCB, dCons, dNil, dCall, dAndV, dOrV, dNotV, dAndT, dOrT, dNotT, dIf, dTup, dLst, dSl, oSome, oNone, dNeg, gN, gT, gConsD, gNilD, gSubD, dChain, dPar, dAug, dLc, dFor, dBM, isLst, iSeqD, iR1, iR2, iR3, dYes, rdAdd, rdSub, rdMul, rdDiv, rdMod, rdPow, rdIAdd, rdCmp, rdIsN, isNon, rdEqG, rdIx, rdSet, rdSl, rdLen, rdInt1, rdInt, rdInt2, rdAppend, startN, wipeD, List.map_cons, List.map_nil, List.length_cons, List.length_nil, Nat.zero_add, Nat.sub_self, Nat.reduceAdd, Nat.reduceSub, List.replicate_succ, List.replicate_zero, List.cons_append, List.nil_append, List.append_nil, List.getElem?_cons_zero, List.getElem?_cons_succ, List.set_cons_zero, List.set_cons_succ, Option.some.injEq, exists_eq_left', DEnds.xd, atI_0, atI_1, atI_2, atI_3, atI_4, atI_5, atI_6, atI_7, ixN_50, ixN_51, ixN_52, ixN_53, ixN_54, ixN_30, ixN_31, ixN_32, put_same, put_put, true_and, and_true]
    rw [List.length_map, List.take_length]
    exact h
def sp_mark_of : SpD := fun ds S Q _ => ∃ ns, ds = [.tup (List.map Dv.int ns)] ∧ Q (.int (markF 1 ns)) S
theorem len_mark_of : ∀ ds S Q X, sp_mark_of ds S Q X → ds.length = 1 := by rintro _ _ _ _ ⟨_, rfl, _⟩; rfl
def r_mark_of : DS := (dRet (dCall sp_marked (dCons (dC (.int 1)) (dCons (dVar 0) dNil))))
theorem rd_mark_of : Rd r_mark_of 1 sp_mark_of := by
  rintro ds S Q X ⟨ns, rfl, h⟩
  unfold r_mark_of
  simp only [dSeq, dAsg, dRet, dRetN, dIfS, dNext, dDrop, dRaise, dBreak, dCont, dTest, dOp, dVar, dC, dCB, dCons, dNil, dCall, dAndV, dOrV, dNotV, dAndT, dOrT, dNotT, dIf, dTup, dLst, dSl, oSome, oNone, dNeg, gN, gT, gConsD, gNilD, gSubD, dChain, dPar, dAug, dLc, dFor, dBM, isLst, iSeqD, iR1, iR2, iR3, dYes, rdAdd, rdSub, rdMul, rdDiv, rdMod, rdPow, rdIAdd, rdCmp, rdIsN, isNon, rdEqG, rdIx, rdSet, rdSl, rdLen, rdInt1, rdInt, rdInt2, rdAppend, startN, wipeD, List.map_cons, List.map_nil, List.length_cons, List.length_nil, Nat.zero_add, Nat.sub_self, Nat.reduceAdd, Nat.reduceSub, List.replicate_succ, List.replicate_zero, List.cons_append, List.nil_append, List.append_nil, List.getElem?_cons_zero, List.getElem?_cons_succ, List.set_cons_zero, List.set_cons_succ, Option.some.injEq, exists_eq_left', DEnds.xd, atI_0, atI_1, atI_2, atI_3, atI_4, atI_5, atI_6, atI_7, ixN_50, ixN_51, ixN_52, ixN_53, ixN_54, ixN_30, ixN_31, ixN_32, put_same, put_put, true_and, and_true]
  exact ⟨1, ns, rfl, h⟩
end Lw

namespace Lw
open PySem PySem.Spec PyProof.Rows L2 VD
/-! ### the law's hand: [cells, place, great, mixed, count] at a, the cells at c -/
def Hand (S : Sto) (a c : Addr) : Prop := ∃ (i g k n : Int) (cells : List Int), S a = some (.lst [.ref c, .int i, .int g, .int k, .int n]) ∧ S c = some (.lst (List.map Dv.int cells)) ∧ c ≠ a ∧ 0 ≤ i
/-- only the hand has changed -/
structure Hd (a c : Addr) (S S' : Sto) : Prop where
  h : Hand S' a c
  s : ∀ b m, b ≠ a → S b = some m → S' b = some m
section
variable {S S' T U : Sto} {a c p : Addr} {m : MO}
theorem Hd.refl (h : Hand S a c) : Hd a c S S := ⟨h, fun _ _ _ e => e⟩
theorem Hd.trans (h : Hd a c S T) (g : Hd a c T U) : Hd a c S U := ⟨g.h, fun b m hb e => g.s b m hb (h.s b m hb e)⟩
theorem Hand.nea (h : Hand S a c) (hp : S p = none) : p ≠ a := by
  obtain ⟨i, g, k, n, cells, ha, _⟩ := h
  exact ne_of' ha hp
theorem Hand.nec (h : Hand S a c) (hp : S p = none) : p ≠ c := by
  obtain ⟨i, g, k, n, cells, ha, hc, _⟩ := h
  exact ne_of' hc hp
theorem Hand.ca (h : Hand S a c) : c ≠ a := by
  obtain ⟨i, g, k, n, cells, ha, hc, hca, hi⟩ := h
  exact hca
/-- it hangs on two objects alone -/
theorem Hand.cong (h : Hand S a c) (ea : T a = S a) (ec : T c = S c) : Hand T a c := by
  obtain ⟨i, g, k, n, cells, ha, hc, hca, hi⟩ := h
  exact ⟨i, g, k, n, cells, by rw [ea]; exact ha, by rw [ec]; exact hc, hca, hi⟩
theorem Hand.new (h : Hand S a c) (hp : S p = none) : Hand (put S p m) a c := h.cong (put_ne (h.nea hp).symm) (put_ne (h.nec hp).symm)
theorem Hand.upd {i g k n : Int} {cells : List Int} (hc : S c = some (.lst (List.map Dv.int cells))) (hca : c ≠ a) (hi : 0 ≤ i) : Hd a c S (put S a (.lst [.ref c, .int i, .int g, .int k, .int n])) :=
  ⟨⟨i, g, k, n, cells, put_same, by rw [put_ne hca]; exact hc, hca, hi⟩, fun b m hb e => by rw [put_ne hb]; exact e⟩
theorem Hd.new (h0 : Hand S a c) (hp : S p = none) : Hd a c S (put S p m) := ⟨h0.new hp, fun b m' hb e => by rw [put_ne (ne_of e hp)]; exact e⟩
/-- where something new was laid and dropped again -/
theorem Hd.rm (h0 : Hand S a c) (hp : S p = none) (h : Hd a c S S') : Hd a c S (rm S' p) := by
  refine ⟨h.h.cong (rm_ne (h0.nea hp).symm) (rm_ne (h0.nec hp).symm), fun b m hb e => ?_⟩
  rw [rm_ne (ne_of e hp)]
  exact h.s b m hb e
end
def sp__law_draw : SpD := fun ds S Q _ => ∃ a c m, ds = [.ref a, .int m] ∧ Hand S a c ∧ 0 < m ∧ m.natAbs < 2 ^ 8000 ∧ ∀ r S', Hd a c S S' → 0 ≤ r → r < m → Q (.int r) S'
theorem len__law_draw : ∀ ds S Q X, sp__law_draw ds S Q X → ds.length = 2 := by rintro _ _ _ _ ⟨_, _, _, rfl, _⟩; rfl
/-- a comprehension whose element draws: what holds of each item, by place -/
theorem lc_hand {g : DG} {te : DE} {vs : List Nat} {ρ : Rho} {Q : QD} {items : List Dv} {stay : Sto → Prop} {S : Sto} {a c : Addr} (P : Nat → Dv → Prop) (hH : Hand S a c) (hl : items.length ≤ sizeLine)
    (hst : ∀ T, Hd a c S T → stay T)
    (he : ∀ i x, items[i]? = some x → ∀ (p : Addr) (T : Sto) (K : QD), Hd a c S T → S p = none → (∀ y T', P i y → Hd a c T T' → K y T') → g x (wipeD ρ vs) T fun ρ2 S2 => te ρ2 S2 K X0)
    (hQ : ∀ p T acc, S p = none → Hd a c S T → T p = some (.lst acc) → acc.length = items.length → (∀ i y, acc[i]? = some y → P i y) → Q (.ref p) T) : LcGo g dYes te vs ρ Q items stay S := by
  intro p hp
  have hpa := hH.nea hp
  have hpc := hH.nec hp
  refine ⟨fun i T => Hd a c S T ∧ ∃ acc, T p = some (.lst acc) ∧ acc.length = i ∧ ∀ j y, acc[j]? = some y → P j y, ⟨Hd.new hH hp, [], put_same, rfl, fun j y h => by simp at h⟩, fun i T _ h => hst T h.1, fun i x T hx h => ?_, fun T h => ?_⟩
  · obtain ⟨h1, acc, h3, h4, h5⟩ := h
    refine he i x hx p T _ h1 hp fun y T' hy ht => ⟨acc, ht.s p _ hpa h3, ?_, ⟨?_, fun b m n1 e => ?_⟩, acc ++ [y], put_same, by simp [h4], fun j z hz => ?_⟩
    · have := (List.getElem?_eq_some_iff.mp hx).1
      omega
    · exact ht.h.cong (put_ne hpa.symm) (put_ne hpc.symm)
    · rw [put_ne (ne_of e hp)]
      exact ht.s b m n1 (h1.s b m n1 e)
    · by_cases hj : j < acc.length
      · rw [List.getElem?_append_left hj] at hz
        exact h5 j z hz
      · rw [List.getElem?_append_right (by omega)] at hz
        have e : j = i := by
          have := (List.getElem?_eq_some_iff.mp hz).1
          simp at this
          omega
        subst e
        rw [h4, Nat.sub_self] at hz
        cases hz
        exact hy
  · obtain ⟨h1, acc, h3, h4, h5⟩ := h
    exact hQ p T acc hp h1 h3 h4 h5
/-- tuple([..]) of such a comprehension -/
theorem tup_hand {g : DG} {te : DE} {vs : List Nat} {ρ : Rho} {Q : QD} {items : List Dv} {stay : Sto → Prop} {S : Sto} {a c : Addr} (P : Nat → Dv → Prop) (hH : Hand S a c) (hl : items.length ≤ sizeLine)
    (hst : ∀ T, Hd a c S T → stay T)
    (he : ∀ i x, items[i]? = some x → ∀ (p : Addr) (T : Sto) (K : QD), Hd a c S T → S p = none → (∀ y T', P i y → Hd a c T T' → K y T') → g x (wipeD ρ vs) T fun ρ2 S2 => te ρ2 S2 K X0)
    (hQ : ∀ T acc, Hd a c S T → acc.length = items.length → (∀ i y, acc[i]? = some y → P i y) → Q (.tup acc) T) : LcGo g dYes te vs ρ (fun x S2 => rdTuple [x] S2 Q) items stay S := by
  refine lc_hand P hH hl hst he fun p T acc hp h1 h3 h4 h5 => ?_
  unfold rdTuple seqOf
  dsimp only
  rw [h3]
  exact ⟨rm T p, rm_sub T p, hQ _ _ (Hd.rm hH hp h1) h4 h5⟩
/-- items that are ints -/
theorem ints_of {P : Int → Prop} : ∀ {acc : List Dv}, (∀ (i : Nat) y, acc[i]? = some y → ∃ r, y = .int r ∧ P r) → ∃ ns : List Int, acc = List.map Dv.int ns ∧ ∀ n ∈ ns, P n
  | [], _ => ⟨[], rfl, fun _ h => by cases h⟩
  | y :: acc, h => by
    obtain ⟨r, rfl, hr⟩ := h 0 y rfl
    obtain ⟨ns, rfl, hn⟩ := ints_of (P := P) (acc := acc) fun i y hy => h (i + 1) y hy
    exact ⟨r :: ns, rfl, fun n hm => by rcases List.mem_cons.mp hm with rfl | hm; exact hr; exact hn n hm⟩
end Lw

namespace Lw
open PySem PySem.Spec PyProof.Rows L2 VD
def plain : Nat → Dv → Prop
  | 0, _ => False
  | n + 1, d => match d with
    | .int _ => True
    | .str _ => True
    | .tup xs => xs.length ≤ sizeLine ∧ ∀ x ∈ xs, plain n x
    | _ => False
def sp__law_same : Nat → SpD
  | 0 => fun _ _ _ _ => False
  | n + 1 => fun ds S Q _ => ∃ d, ds = [d, d] ∧ plain (n + 1) d ∧ Q (.bl true) S
theorem len__law_same : ∀ n ds S Q X, sp__law_same n ds S Q X → ds.length = 2
  | 0, _, _, _, _, h => h.elim
  | _ + 1, _, _, _, _, ⟨_, rfl, _⟩ => rfl
/-- what is known of a thing that is not the hand -/
def Kn (a : Addr) (S : Sto) (d : Dv) : Prop := known S d ∧ d ≠ .ref a ∧ ∀ i, d = .int i → -(2 ^ 100) < i ∧ i < 2 ^ 100
def smallF (i : Int) : Int := (i + 2147483648) % 4294967296 - 2147483648
def powF (n : Nat) : Int := 48271 ^ n % 2147483647
def seedOf : Dv → Option Int
  | .int i => if 1 ≤ i ∧ i ≤ 2147483646 then some i else none
  | _ => none
def natOf : Dv → Option Nat
  | .int i => if 0 ≤ i then some i.toNat else none
  | _ => none
def smlOf : Dv → Option Int
  | .int i => if -2147483648 ≤ i ∧ i ≤ 2147483647 then some i else none
  | _ => none
def drawF (s b : Int) : Dv := if b < 1 then .tup [.int 0, .int s] else .tup [.int (s * 48271 % 2147483647 / 16 % b), .int (s * 48271 % 2147483647)]
def kNN : Dv := .tup [.str (Str.ofString "NoNumber")]
def kNS : Dv := .tup [.str (Str.ofString "NoSeed")]
def kT (d : Dv) : Dv := .tup [.str (Str.ofString "told"), d]
def wrapF : Dv → Dv
  | .int i => kT (.int (smallF i))
  | _ => kNN
def afterF (d m : Dv) : Dv := match seedOf d with
  | none => kNS
  | some s => match natOf m with
    | none => kNN
    | some n => kT (.int (s * powF n % 2147483647))
def drawnF (d m : Dv) : Dv := match seedOf d with
  | none => kNS
  | some s => match smlOf m with
    | none => kNN
    | some b => kT (drawF s b)
/-- an int that is not too big -/
def fits (d : Dv) : Prop := ∀ i, d = .int i → -(2 ^ 100) < i ∧ i < 2 ^ 100
def sp_is_small : SpD := fun ds S Q _ => ∃ d, ds = [d] ∧ known S d ∧ Q (.bl (smlOf d).isSome) S
def sp_check_integers (c_NoNumber : Addr) : SpD := fun ds S Q X => ∃ d, ds = [.tup [d]] ∧ known S d ∧ if isInt d = true then Q .non S else X (.ref c_NoNumber) none S
def sp_small : SpD := fun ds S Q _ => ∃ i, ds = [.int i] ∧ Q (.int (smallF i)) S
def sp_wrapped (c_NoNumber : Addr) : SpD := fun ds S Q X => ∃ d, ds = [d] ∧ known S d ∧ match d with
  | .int i => Q (.int (smallF i)) S
  | _ => X (.ref c_NoNumber) none S
def sp_is_seed : SpD := fun ds S Q _ => ∃ d, ds = [d] ∧ known S d ∧ Q (.bl (seedOf d).isSome) S
def sp_check_seed (c_NoSeed : Addr) : SpD := fun ds S Q X => ∃ d, ds = [d] ∧ known S d ∧ if (seedOf d).isSome = true then Q .non S else X (.ref c_NoSeed) none S
def sp_later_seed : SpD := fun ds S Q _ => ∃ i, ds = [.int i] ∧ Q (.int (i * 48271 % 2147483647)) S
def sp_next_seed (c_NoSeed : Addr) : SpD := fun ds S Q X => ∃ d, ds = [d] ∧ known S d ∧ match seedOf d with
  | none => X (.ref c_NoSeed) none S
  | some s => Q (.int (s * 48271 % 2147483647)) S
def sp_power_left : SpD := fun ds S Q _ => ∃ n : Nat, ds = [.int 48271, .int n] ∧ Q (.int (powF n)) S
def sp_seed_after (c_NoNumber c_NoSeed : Addr) : SpD := fun ds S Q X => ∃ d m, ds = [d, m] ∧ known S d ∧ known S m ∧ match seedOf d with
  | none => X (.ref c_NoSeed) none S
  | some s => match natOf m with
    | none => X (.ref c_NoNumber) none S
    | some n => Q (.int (s * powF n % 2147483647)) S
def sp_draw : SpD := fun ds S Q _ => ∃ s b, ds = [.int s, .int b] ∧ b ≤ 2147483647 ∧ Q (drawF s b) S
def sp_drawn (c_NoNumber c_NoSeed : Addr) : SpD := fun ds S Q X => ∃ d m, ds = [d, m] ∧ known S d ∧ known S m ∧ match seedOf d with
  | none => X (.ref c_NoSeed) none S
  | some s => match smlOf m with
    | none => X (.ref c_NoNumber) none S
    | some b => Q (drawF s b) S
def sp__law_hand : SpD := fun ds S Q _ => ∃ ns : List Int, ds = [.rol (List.map Dv.int ns)] ∧ ∀ a c S', Hand S' a c → Q (.ref a) S'
def sp__law_take : SpD := sp__law_draw
def sp__law_pick : SpD := fun ds S Q _ => ∃ a c p xs, ds = [.ref a, .ref p] ∧ Hand S a c ∧ S p = some (.lst xs) ∧ p ≠ a ∧ 0 < xs.length ∧ xs.length < 1000 ∧ ∀ x S', x ∈ xs → Hd a c S S' → Q x S'
def spI (P : Int → Prop) : SpD := fun ds S Q _ => ∃ a c, ds = [.ref a] ∧ Hand S a c ∧ ∀ r S', Hd a c S S' → P r → Q (.int r) S'
def sp__law_wide : SpD := spI fun r => -2147483648 ≤ r ∧ r ≤ 2147483647
def sp__law_small : SpD := spI fun r => -2147483648 ≤ r ∧ r ≤ 2147483647
def sp__law_great : SpD := spI fun r => 0 ≤ r ∧ r < 100000000000000000000
def sp__law_seed : SpD := spI fun r => 1 ≤ r ∧ r ≤ 2147483646
def sp__law_is_integer : SpD := fun ds S Q _ => ∃ d, ds = [d] ∧ known S d ∧ Q (.bl (isInt d)) S
def sp__law_is_within : SpD := fun ds S Q _ => ∃ d a b, ds = [d, .int a, .int b] ∧ known S d ∧ Q (.bl (within d a b)) S
def sp__law_odd : SpD := fun ds S Q _ => ∃ a c, ds = [.ref a] ∧ Hand S a c ∧ ∀ d S', Hd a c S S' → Kn a S' d → Q d S'
def sp__law_power : SpD := fun ds S Q _ => ∃ n : Nat, ds = [.int n] ∧ n < 2 ^ 101 ∧ Q (.int (powF n)) S
def sp__law_wrapped (c_NoNumber : Addr) : SpD := fun ds S Q _ => ∃ d, ds = [d] ∧ known S d ∧ Q (wrapF d) S
def sp__law_next (c_NoSeed : Addr) : SpD := fun ds S Q _ => ∃ d, ds = [d] ∧ known S d ∧ Q (afterF d (.int 1)) S
def sp__law_after (c_NoNumber c_NoSeed : Addr) : SpD := fun ds S Q _ => ∃ d m, ds = [d, m] ∧ known S d ∧ known S m ∧ Q (afterF d m) S
def sp__law_drawn (c_NoNumber c_NoSeed : Addr) : SpD := fun ds S Q _ => ∃ d m, ds = [d, m] ∧ known S d ∧ known S m ∧ Q (drawnF d m) S
def sp__law_due_wrapped : SpD := fun ds S Q _ => ∃ d, ds = [d] ∧ known S d ∧ Q (wrapF d) S
def sp__law_due_after : SpD := fun ds S Q _ => ∃ d m, ds = [d, m] ∧ known S d ∧ known S m ∧ fits m ∧ Q (afterF d m) S
def sp__law_due_drawn : SpD := fun ds S Q _ => ∃ d m, ds = [d, m] ∧ known S d ∧ known S m ∧ Q (drawnF d m) S
def sp__law_some : SpD := fun ds S Q _ => ∃ a c d, ds = [.ref a, d] ∧ Hand S a c ∧ Kn a S d ∧ ∀ d' S', Hd a c S S' → Kn a S' d' → Q d' S'
def sp__law_chained (c_NoSeed : Addr) : SpD := fun ds S Q _ => ∃ (s : Int) (n : Nat), ds = [.int s, .int n] ∧ 1 ≤ s ∧ s ≤ 2147483646 ∧ n ≤ 100 ∧ Q (.int (s * powF n % 2147483647)) S
theorem len_is_small : ∀ ds S Q X, sp_is_small ds S Q X → ds.length = 1 := by rintro _ _ _ _ ⟨_, rfl, _⟩; rfl
theorem len_check_integers (c0 : Addr) : ∀ ds S Q X, (sp_check_integers c0) ds S Q X → ds.length = 1 := by rintro _ _ _ _ ⟨_, rfl, _⟩; rfl
theorem len_small : ∀ ds S Q X, sp_small ds S Q X → ds.length = 1 := by rintro _ _ _ _ ⟨_, rfl, _⟩; rfl
theorem len_wrapped (c0 : Addr) : ∀ ds S Q X, (sp_wrapped c0) ds S Q X → ds.length = 1 := by rintro _ _ _ _ ⟨_, rfl, _⟩; rfl
theorem len_is_seed : ∀ ds S Q X, sp_is_seed ds S Q X → ds.length = 1 := by rintro _ _ _ _ ⟨_, rfl, _⟩; rfl
theorem len_check_seed (c0 : Addr) : ∀ ds S Q X, (sp_check_seed c0) ds S Q X → ds.length = 1 := by rintro _ _ _ _ ⟨_, rfl, _⟩; rfl
theorem len_later_seed : ∀ ds S Q X, sp_later_seed ds S Q X → ds.length = 1 := by rintro _ _ _ _ ⟨_, rfl, _⟩; rfl
theorem len_next_seed (c0 : Addr) : ∀ ds S Q X, (sp_next_seed c0) ds S Q X → ds.length = 1 := by rintro _ _ _ _ ⟨_, rfl, _⟩; rfl
theorem len_power_left : ∀ ds S Q X, sp_power_left ds S Q X → ds.length = 2 := by rintro _ _ _ _ ⟨_, rfl, _⟩; rfl
theorem len_seed_after (c0 : Addr) (c1 : Addr) : ∀ ds S Q X, (sp_seed_after c0 c1) ds S Q X → ds.length = 2 := by rintro _ _ _ _ ⟨_, _, rfl, _⟩; rfl
theorem len_draw : ∀ ds S Q X, sp_draw ds S Q X → ds.length = 2 := by rintro _ _ _ _ ⟨_, _, rfl, _⟩; rfl
theorem len_drawn (c0 : Addr) (c1 : Addr) : ∀ ds S Q X, (sp_drawn c0 c1) ds S Q X → ds.length = 2 := by rintro _ _ _ _ ⟨_, _, rfl, _⟩; rfl
theorem len__law_hand : ∀ ds S Q X, sp__law_hand ds S Q X → ds.length = 1 := by rintro _ _ _ _ ⟨_, rfl, _⟩; rfl
theorem len__law_take : ∀ ds S Q X, sp__law_take ds S Q X → ds.length = 2 := len__law_draw
theorem len__law_pick : ∀ ds S Q X, sp__law_pick ds S Q X → ds.length = 2 := by rintro _ _ _ _ ⟨_, _, _, _, rfl, _⟩; rfl
theorem len__law_wide : ∀ ds S Q X, sp__law_wide ds S Q X → ds.length = 1 := by rintro _ _ _ _ ⟨_, _, rfl, _⟩; rfl
theorem len__law_small : ∀ ds S Q X, sp__law_small ds S Q X → ds.length = 1 := by rintro _ _ _ _ ⟨_, _, rfl, _⟩; rfl
theorem len__law_great : ∀ ds S Q X, sp__law_great ds S Q X → ds.length = 1 := by rintro _ _ _ _ ⟨_, _, rfl, _⟩; rfl
theorem len__law_seed : ∀ ds S Q X, sp__law_seed ds S Q X → ds.length = 1 := by rintro _ _ _ _ ⟨_, _, rfl, _⟩; rfl
theorem len__law_is_integer : ∀ ds S Q X, sp__law_is_integer ds S Q X → ds.length = 1 := by rintro _ _ _ _ ⟨_, rfl, _⟩; rfl
theorem len__law_is_within : ∀ ds S Q X, sp__law_is_within ds S Q X → ds.length = 3 := by rintro _ _ _ _ ⟨_, _, _, rfl, _⟩; rfl
theorem len__law_odd : ∀ ds S Q X, sp__law_odd ds S Q X → ds.length = 1 := by rintro _ _ _ _ ⟨_, _, rfl, _⟩; rfl
theorem len__law_power : ∀ ds S Q X, sp__law_power ds S Q X → ds.length = 1 := by rintro _ _ _ _ ⟨_, rfl, _⟩; rfl
theorem len__law_wrapped (c0 : Addr) : ∀ ds S Q X, (sp__law_wrapped c0) ds S Q X → ds.length = 1 := by rintro _ _ _ _ ⟨_, rfl, _⟩; rfl
theorem len__law_next (c0 : Addr) : ∀ ds S Q X, (sp__law_next c0) ds S Q X → ds.length = 1 := by rintro _ _ _ _ ⟨_, rfl, _⟩; rfl
theorem len__law_after (c0 : Addr) (c1 : Addr) : ∀ ds S Q X, (sp__law_after c0 c1) ds S Q X → ds.length = 2 := by rintro _ _ _ _ ⟨_, _, rfl, _⟩; rfl
theorem len__law_drawn (c0 : Addr) (c1 : Addr) : ∀ ds S Q X, (sp__law_drawn c0 c1) ds S Q X → ds.length = 2 := by rintro _ _ _ _ ⟨_, _, rfl, _⟩; rfl
theorem len__law_due_wrapped : ∀ ds S Q X, sp__law_due_wrapped ds S Q X → ds.length = 1 := by rintro _ _ _ _ ⟨_, rfl, _⟩; rfl
theorem len__law_due_after : ∀ ds S Q X, sp__law_due_after ds S Q X → ds.length = 2 := by rintro _ _ _ _ ⟨_, _, rfl, _⟩; rfl
theorem len__law_due_drawn : ∀ ds S Q X, sp__law_due_drawn ds S Q X → ds.length = 2 := by rintro _ _ _ _ ⟨_, _, rfl, _⟩; rfl
theorem len__law_some : ∀ ds S Q X, sp__law_some ds S Q X → ds.length = 2 := by rintro _ _ _ _ ⟨_, _, _, rfl, _⟩; rfl
theorem len__law_chained (c0 : Addr) : ∀ ds S Q X, (sp__law_chained c0) ds S Q X → ds.length = 2 := by rintro _ _ _ _ ⟨_, _, rfl, _⟩; rfl
theorem len_law (c c2 : Addr) : ∀ ds S Q X, spLaw ds S Q X → ds.length = 1 := by rintro _ _ _ _ ⟨_, rfl, _⟩; rfl
/-! readings, printed by gen.py from the law k01 -/
structure Ad where
  NoNumber : Addr
  NoSeed : Addr
--is_small
def r_is_small : DS := (dRet (dCall sp_is_within (dCons (dVar 0) (dCons (dC (.int (-2147483648))) (dCons (dC (.int 2147483647)) dNil)))))
--check_integers
def r_check_integers (c_NoNumber : Addr) : DS := (dIfS (dNotT (dTest (dCB rdAll (dCons (dLc (iSeqD (dVar 0)) (gN 1) dYes (dCall sp_is_integer (dCons (dVar 1) dNil)) [1]) dNil)))) (dRaise (.ref c_NoNumber)) dNext)
--small
def r_small : DS := (dRet (dOp rdAdd (dOp rdMod (dOp rdSub (dVar 0) (dC (.int (-2147483648)))) (dC (.int 4294967296))) (dC (.int (-2147483648)))))
--wrapped
def r_wrapped (c_NoNumber : Addr) : DS := (dSeq (dDrop (dCall (sp_check_integers c_NoNumber) (dCons (dTup (dCons (dVar 0) dNil)) dNil)))
    (dRet (dCall sp_small (dCons (dVar 0) dNil))))
--is_seed
def r_is_seed : DS := (dRet (dCall sp_is_within (dCons (dVar 0) (dCons (dC (.int 1)) (dCons (dOp rdSub (dC (.int 2147483647)) (dC (.int 1))) dNil)))))
--check_seed
def r_check_seed (c_NoSeed : Addr) : DS := (dIfS (dNotT (dTest (dCall sp_is_seed (dCons (dVar 0) dNil)))) (dRaise (.ref c_NoSeed)) dNext)
--later_seed
def r_later_seed : DS := (dRet (dOp rdMod (dOp rdMul (dVar 0) (dC (.int 48271))) (dC (.int 2147483647))))
--next_seed
def r_next_seed (c_NoSeed : Addr) : DS := (dSeq (dDrop (dCall (sp_check_seed c_NoSeed) (dCons (dVar 0) dNil)))
    (dRet (dCall sp_later_seed (dCons (dVar 0) dNil))))
--power_left
def r_power_left : DS := (dSeq (dAsg (dC (.int 1)) (gN 2))
    (dSeq (dAsg (dOp rdMod (dVar 0) (dC (.int 2147483647))) (gN 3))
    (dSeq (dAsg (dVar 1) (gN 4))
    (dSeq (dWhile (dTest (dOp rdGt (dVar 4) (dC (.int 0)))) (dSeq (dIfS (dTest (dOp rdEq (dOp rdMod (dVar 4) (dC (.int 2))) (dC (.int 1)))) (dAsg (dOp rdMod (dOp rdMul (dVar 2) (dVar 3)) (dC (.int 2147483647))) (gN 2)) dNext)
    (dSeq (dAsg (dOp rdMod (dOp rdMul (dVar 3) (dVar 3)) (dC (.int 2147483647))) (gN 3))
    (dAsg (dOp rdDiv (dVar 4) (dC (.int 2))) (gN 4)))))
    (dRet (dVar 2))))))
--seed_after
def r_seed_after (c_NoNumber : Addr) (c_NoSeed : Addr) : DS := (dSeq (dDrop (dCall (sp_check_seed c_NoSeed) (dCons (dVar 0) dNil)))
    (dSeq (dIfS (dOrT (dNotT (dTest (dCall sp_is_integer (dCons (dVar 1) dNil)))) (dTest (dOp rdLt (dVar 1) (dC (.int 0))))) (dRaise (.ref c_NoNumber)) dNext)
    (dRet (dOp rdMod (dOp rdMul (dVar 0) (dCall sp_power_left (dCons (dC (.int 48271)) (dCons (dVar 1) dNil)))) (dC (.int 2147483647))))))
--draw
def r_draw : DS := (dSeq (dIfS (dTest (dOp rdLt (dVar 1) (dC (.int 1)))) (dRet (dTup (dCons (dC (.int 0)) (dCons (dVar 0) dNil)))) dNext)
    (dSeq (dAsg (dCall sp_later_seed (dCons (dVar 0) dNil)) (gN 2))
    (dRet (dTup (dCons (dOp rdMod (dOp rdDiv (dVar 2) (dC (.int 16))) (dVar 1)) (dCons (dVar 2) dNil))))))
--drawn
def r_drawn (c_NoNumber : Addr) (c_NoSeed : Addr) : DS := (dSeq (dDrop (dCall (sp_check_seed c_NoSeed) (dCons (dVar 0) dNil)))
    (dSeq (dIfS (dNotT (dTest (dCall sp_is_small (dCons (dVar 1) dNil)))) (dRaise (.ref c_NoNumber)) dNext)
    (dRet (dCall sp_draw (dCons (dVar 0) (dCons (dVar 1) dNil))))))
--_law_hand
def r__law_hand : DS := (dRet (dLst (dCons (dCB rdList (dCons (dVar 0) dNil)) (dCons (dC (.int 0)) (dCons (dC (.int 0)) (dCons (dC (.int 1)) (dCons (dC (.int 0)) dNil)))))))
--_law_take
def r__law_take : DS := (dSeq (dAsg (dOp rdAdd (dOp rdIx (dVar 0) (dC (.int 4))) (dC (.int 1))) (gSubD rdSet (dVar 0) (dC (.int 4))))
    (dSeq (dIfS (dAndT (dTest (dOp rdEq (dOp rdIx (dVar 0) (dC (.int 2))) (dC (.int 0)))) (dTest (dOp rdLt (dOp rdIx (dVar 0) (dC (.int 1))) (dCB rdLen (dCons (dOp rdIx (dVar 0) (dC (.int 0))) dNil))))) (dSeq (dAsg (dCB rdInt (dCons (dOp rdIx (dOp rdIx (dVar 0) (dC (.int 0))) (dOp rdIx (dVar 0) (dC (.int 1)))) dNil)) (gN 2))
    (dSeq (dAsg (dOp rdAdd (dOp rdIx (dVar 0) (dC (.int 1))) (dC (.int 1))) (gSubD rdSet (dVar 0) (dC (.int 1))))
    (dIfS (dTest (dOp rdGe (dVar 2) (dOp rdPow (dC (.int 10)) (dC (.int 18))))) (dAsg (dVar 2) (gSubD rdSet (dVar 0) (dC (.int 2)))) (dAsg (dOp rdMod (dCB rdInt (dCons (dOp rdAdd (dOp rdAdd (dOp rdMul (dOp rdIx (dVar 0) (dC (.int 3))) (dC (.int 48271))) (dOp rdMod (dCB rdInt (dCons (dVar 2) dNil)) (dC (.int 2147483647)))) (dC (.int 1))) dNil)) (dC (.int 2147483647))) (gSubD rdSet (dVar 0) (dC (.int 3))))))) dNext)
    (dSeq (dIfS (dTest (dOp rdGt (dOp rdIx (dVar 0) (dC (.int 2))) (dC (.int 0)))) (dSeq (dAsg (dOp rdMod (dCB rdInt (dCons (dOp rdIx (dVar 0) (dC (.int 2))) dNil)) (dVar 1)) (gN 3))
    (dSeq (dAsg (dOp rdDiv (dCB rdInt (dCons (dOp rdIx (dVar 0) (dC (.int 2))) dNil)) (dVar 1)) (gSubD rdSet (dVar 0) (dC (.int 2))))
    (dRet (dVar 3)))) dNext)
    (dSeq (dAsg (dOp rdMod (dCB rdInt (dCons (dOp rdAdd (dOp rdMul (dOp rdIx (dVar 0) (dC (.int 3))) (dC (.int 69621))) (dOp rdMul (dC (.int 7919)) (dOp rdIx (dVar 0) (dC (.int 4))))) dNil)) (dC (.int 2147483647))) (gSubD rdSet (dVar 0) (dC (.int 3))))
    (dSeq (dAsg (dOp rdMod (dCB rdInt (dCons (dOp rdMul (dOp rdIx (dVar 0) (dC (.int 3))) (dOp rdAdd (dOp rdDiv (dOp rdIx (dVar 0) (dC (.int 3))) (dC (.int 1009))) (dC (.int 69621)))) dNil)) (dC (.int 2147483647))) (gN 4))
    (dSeq (dAsg (dOp rdMod (dCB rdInt (dCons (dOp rdMul (dVar 4) (dOp rdAdd (dOp rdDiv (dVar 4) (dC (.int 2003))) (dC (.int 40692)))) dNil)) (dC (.int 2147483399))) (gN 4))
    (dRet (dOp rdMod (dCB rdInt (dCons (dOp rdDiv (dVar 4) (dC (.int 16))) dNil)) (dVar 1)))))))))
--_law_pick
def r__law_pick : DS := (dRet (dOp rdIx (dVar 1) (dCall sp__law_take (dCons (dVar 0) (dCons (dCB rdLen (dCons (dVar 1) dNil)) dNil)))))
--_law_wide
def r__law_wide : DS := (dRet (dOp rdSub (dOp rdAdd (dOp rdMul (dCall sp__law_take (dCons (dVar 0) (dCons (dC (.int 65536)) dNil))) (dC (.int 65536))) (dCall sp__law_take (dCons (dVar 0) (dCons (dC (.int 65536)) dNil)))) (dC (.int 2147483648))))
--_law_small
def r__law_small : DS := (dSeq (dAsg (dCall sp__law_take (dCons (dVar 0) (dCons (dC (.int 8)) dNil))) (gN 1))
    (dSeq (dIfS (dTest (dOp rdEq (dVar 1) (dC (.int 0)))) (dRet (dCall sp__law_wide (dCons (dVar 0) dNil))) dNext)
    (dSeq (dIfS (dTest (dOp rdEq (dVar 1) (dC (.int 1)))) (dRet (dCall sp__law_pick (dCons (dVar 0) (dCons (dLst (dCons (dC (.int 2147483647)) (dCons (dNeg (dC (.int 2147483648))) (dCons (dC (.int 2147483646)) (dCons (dNeg (dC (.int 2147483647))) (dCons (dC (.int 65535)) (dCons (dC (.int 65536)) (dCons (dC (.int 255)) (dCons (dC (.int 256)) (dCons (dNeg (dC (.int 17))) dNil)))))))))) dNil)))) dNext)
    (dSeq (dIfS (dTest (dOp rdLt (dVar 1) (dC (.int 4)))) (dRet (dOp rdSub (dCall sp__law_take (dCons (dVar 0) (dCons (dC (.int 5)) dNil))) (dC (.int 2)))) dNext)
    (dRet (dOp rdSub (dCall sp__law_take (dCons (dVar 0) (dCons (dC (.int 60)) dNil))) (dC (.int 12))))))))
--_law_great
def r__law_great : DS := (dRet (dOp rdAdd (dOp rdMul (dOp rdAdd (dOp rdMul (dCall sp__law_take (dCons (dVar 0) (dCons (dOp rdPow (dC (.int 10)) (dC (.int 5))) dNil))) (dOp rdPow (dC (.int 10)) (dC (.int 5)))) (dCall sp__law_take (dCons (dVar 0) (dCons (dOp rdPow (dC (.int 10)) (dC (.int 5))) dNil)))) (dOp rdPow (dC (.int 10)) (dC (.int 10)))) (dOp rdAdd (dOp rdMul (dCall sp__law_take (dCons (dVar 0) (dCons (dOp rdPow (dC (.int 10)) (dC (.int 5))) dNil))) (dOp rdPow (dC (.int 10)) (dC (.int 5)))) (dCall sp__law_take (dCons (dVar 0) (dCons (dOp rdPow (dC (.int 10)) (dC (.int 5))) dNil))))))
--_law_seed
def r__law_seed : DS := (dSeq (dIfS (dTest (dOp rdEq (dCall sp__law_take (dCons (dVar 0) (dCons (dC (.int 6)) dNil))) (dC (.int 0)))) (dRet (dCall sp__law_pick (dCons (dVar 0) (dCons (dLst (dCons (dC (.int 1)) (dCons (dC (.int 2147483646)) (dCons (dC (.int 2)) (dCons (dC (.int 2147483645)) (dCons (dC (.int 48271)) dNil)))))) dNil)))) dNext)
    (dRet (dOp rdAdd (dC (.int 1)) (dOp rdMod (dCB rdInt (dCons (dOp rdAdd (dOp rdMul (dCall sp__law_take (dCons (dVar 0) (dCons (dC (.int 65536)) dNil))) (dC (.int 32768))) (dCall sp__law_take (dCons (dVar 0) (dCons (dC (.int 32768)) dNil)))) dNil)) (dC (.int 2147483646))))))
--_law_is_integer
def r__law_is_integer : DS := (dRet (dAndV (dCB rdIsi (dCons (dVar 0) (dCons (dC (.ty "int")) dNil))) (dNotV (dCB rdIsi (dCons (dVar 0) (dCons (dC (.ty "bool")) dNil))))))
--_law_is_within
def r__law_is_within : DS := (dRet (dAndV (dCall sp__law_is_integer (dCons (dVar 0) dNil)) (dAndV (dOp rdLe (dVar 1) (dVar 0)) (dOp rdLe (dVar 0) (dVar 2)))))
--_law_same
def r__law_same (sp_self : SpD) : DS := (dSeq (dIfS (dTest (dOp (rdIsN fun b => b) (dVar 1) (dC .non))) (dRet (dOp (rdIsN fun b => b) (dVar 0) (dC .non))) dNext)
    (dSeq (dIfS (dTest (dOp (rdIsB fun b => b) (dVar 1) (dC (.bl true)))) (dRet (dOp (rdIsB fun b => b) (dVar 0) (dC (.bl true)))) dNext)
    (dSeq (dIfS (dTest (dOp (rdIsB fun b => b) (dVar 1) (dC (.bl false)))) (dRet (dOp (rdIsB fun b => b) (dVar 0) (dC (.bl false)))) dNext)
    (dSeq (dIfS (dTest (dCB rdIsi (dCons (dVar 1) (dCons (dC (.ty "int")) dNil)))) (dRet (dAndV (dCall sp__law_is_integer (dCons (dVar 0) dNil)) (dOp rdEq (dVar 0) (dVar 1)))) dNext)
    (dSeq (dIfS (dTest (dCB rdIsi (dCons (dVar 1) (dCons (dC (.ty "str")) dNil)))) (dRet (dAndV (dCB rdIsi (dCons (dVar 0) (dCons (dC (.ty "str")) dNil))) (dOp rdEq (dVar 0) (dVar 1)))) dNext)
    (dSeq (dIfS (dOrT (dTest (dOp rdNe (dCB rdIsi (dCons (dVar 1) (dCons (dC (.ty "tuple")) dNil))) (dCB rdIsi (dCons (dVar 0) (dCons (dC (.ty "tuple")) dNil))))) (dTest (dOp rdNe (dCB rdIsi (dCons (dVar 1) (dCons (dC (.ty "list")) dNil))) (dCB rdIsi (dCons (dVar 0) (dCons (dC (.ty "list")) dNil)))))) (dRet (dC (.bl false))) dNext)
    (dSeq (dIfS (dTest (dOp rdNe (dCB rdLen (dCons (dVar 0) dNil)) (dCB rdLen (dCons (dVar 1) dNil)))) (dRet (dC (.bl false))) dNext)
    (dSeq (dFor (iZipD (dCons (dVar 0) (dCons (dVar 1) dNil))) (gT 2 (gConsD (gN 2) (gConsD (gN 3) gNilD))) (dIfS (dNotT (dTest (dCall sp_self (dCons (dVar 2) (dCons (dVar 3) dNil))))) (dRet (dC (.bl false))) dNext))
    (dRet (dC (.bl true)))))))))))
--_law_odd
def r__law_odd : DS := (dSeq (dAsg (dCall sp__law_take (dCons (dVar 0) (dCons (dC (.int 20)) dNil))) (gN 1))
    (dSeq (dIfS (dTest (dOp rdLt (dVar 1) (dC (.int 6)))) (dRet (dOp rdIx (dLst (dCons (dC .non) (dCons (dC (.bl true)) (dCons (dC (.bl false)) (dCons (dC (.str (Str.ofString ""))) (dCons (dC (.str (Str.ofString "a"))) (dCons (dC (.str (Str.ofString "0"))) dNil))))))) (dVar 1))) dNext)
    (dSeq (dIfS (dTest (dOp rdLt (dVar 1) (dC (.int 12)))) (dRet (dOp rdIx (dLst (dCons (dTup dNil) (dCons (dLst dNil) (dCons dDict0 (dCons (dTup (dCons (dC (.int 1)) dNil)) (dCons (dLst (dCons (dC (.int 0)) dNil)) (dCons (dTup (dCons (dTup dNil) dNil)) dNil))))))) (dOp rdSub (dVar 1) (dC (.int 6))))) dNext)
    (dSeq (dIfS (dTest (dOp rdLt (dVar 1) (dC (.int 18)))) (dRet (dOp rdIx (dLst (dCons (dNeg (dC (.int 1))) (dCons (dC (.int 2147483648)) (dCons (dNeg (dC (.int 2147483649))) (dCons (dOp rdSub (dOp rdPow (dC (.int 10)) (dC (.int 20))) (dC (.int 1))) (dCons (dOp rdSub (dC (.int 1)) (dOp rdPow (dC (.int 10)) (dC (.int 20)))) (dCons (dC (.int 300)) dNil))))))) (dOp rdSub (dVar 1) (dC (.int 12))))) dNext)
    (dSeq (dIfS (dTest (dOp rdEq (dVar 1) (dC (.int 18)))) (dRet (dLst (dCons (dOp rdMulS (dC (.str (Str.ofString "."))) (dC (.int 3))) (dCons (dTup (dCons (dC .non) (dCons (dC (.int 0)) dNil))) dNil)))) dNext)
    (dRet (dDict1 (dC (.str (Str.ofString "tick"))) (dTup dNil))))))))
--_law_power
def r__law_power : DS := (dSeq (dAsg (dC (.int 1)) (gN 1))
    (dSeq (dFor (iStrD (dCB rdStrI (dCons (dVar 0) dNil))) (gN 2) (dSeq (dAsg (dOp rdMod (dCB rdInt (dCons (dOp rdMul (dVar 1) (dVar 1)) dNil)) (dC (.int 2147483647))) (gN 3))
    (dSeq (dAsg (dOp rdMod (dCB rdInt (dCons (dOp rdMul (dVar 3) (dVar 3)) dNil)) (dC (.int 2147483647))) (gN 4))
    (dSeq (dAsg (dOp rdMod (dCB rdInt (dCons (dOp rdMul (dVar 4) (dVar 4)) dNil)) (dC (.int 2147483647))) (gN 5))
    (dSeq (dAsg (dOp rdMod (dCB rdInt (dCons (dOp rdMul (dVar 5) (dVar 3)) dNil)) (dC (.int 2147483647))) (gN 1))
    (dFor (iR1 (dCons (dCB rdIntS (dCons (dVar 2) dNil)) dNil)) (gN 6) (dAsg (dOp rdMod (dCB rdInt (dCons (dOp rdMul (dVar 1) (dC (.int 48271))) dNil)) (dC (.int 2147483647))) (gN 1))))))))
    (dRet (dVar 1))))
--_law_wrapped
def r__law_wrapped (c_NoNumber : Addr) : DS := (dTry (dRet (dTup (dCons (dC (.str (Str.ofString "told"))) (dCons (dCall (sp_wrapped c_NoNumber) (dCons (dVar 0) dNil)) dNil)))) [([(.ref c_NoNumber, true)], (dRet (dTup (dCons (dC (.str (Str.ofString "NoNumber"))) dNil))))])
--_law_next
def r__law_next (c_NoSeed : Addr) : DS := (dTry (dRet (dTup (dCons (dC (.str (Str.ofString "told"))) (dCons (dCall (sp_next_seed c_NoSeed) (dCons (dVar 0) dNil)) dNil)))) [([(.ref c_NoSeed, true)], (dRet (dTup (dCons (dC (.str (Str.ofString "NoSeed"))) dNil))))])
--_law_after
def r__law_after (c_NoNumber : Addr) (c_NoSeed : Addr) : DS := (dTry (dRet (dTup (dCons (dC (.str (Str.ofString "told"))) (dCons (dCall (sp_seed_after c_NoNumber c_NoSeed) (dCons (dVar 0) (dCons (dVar 1) dNil))) dNil)))) [([(.ref c_NoNumber, false), (.ref c_NoSeed, true)], (dRet (dTup (dCons (dC (.str (Str.ofString "NoSeed"))) dNil)))), ([(.ref c_NoNumber, true), (.ref c_NoSeed, false)], (dRet (dTup (dCons (dC (.str (Str.ofString "NoNumber"))) dNil))))])
--_law_drawn
def r__law_drawn (c_NoNumber : Addr) (c_NoSeed : Addr) : DS := (dTry (dRet (dTup (dCons (dC (.str (Str.ofString "told"))) (dCons (dCall (sp_drawn c_NoNumber c_NoSeed) (dCons (dVar 0) (dCons (dVar 1) dNil))) dNil)))) [([(.ref c_NoNumber, false), (.ref c_NoSeed, true)], (dRet (dTup (dCons (dC (.str (Str.ofString "NoSeed"))) dNil)))), ([(.ref c_NoNumber, true), (.ref c_NoSeed, false)], (dRet (dTup (dCons (dC (.str (Str.ofString "NoNumber"))) dNil))))])
--_law_due_wrapped
def r__law_due_wrapped : DS := (dSeq (dIfS (dNotT (dTest (dCall sp__law_is_integer (dCons (dVar 0) dNil)))) (dRet (dTup (dCons (dC (.str (Str.ofString "NoNumber"))) dNil))) dNext)
    (dRet (dTup (dCons (dC (.str (Str.ofString "told"))) (dCons (dOp rdSub (dVar 0) (dOp rdMul (dC (.int 4294967296)) (dOp rdDiv (dOp rdAdd (dVar 0) (dC (.int 2147483648))) (dC (.int 4294967296))))) dNil)))))
--_law_due_after
def r__law_due_after : DS := (dSeq (dIfS (dNotT (dTest (dCall sp__law_is_within (dCons (dVar 0) (dCons (dC (.int 1)) (dCons (dC (.int 2147483646)) dNil)))))) (dRet (dTup (dCons (dC (.str (Str.ofString "NoSeed"))) dNil))) dNext)
    (dSeq (dIfS (dOrT (dNotT (dTest (dCall sp__law_is_integer (dCons (dVar 1) dNil)))) (dTest (dOp rdLt (dVar 1) (dC (.int 0))))) (dRet (dTup (dCons (dC (.str (Str.ofString "NoNumber"))) dNil))) dNext)
    (dRet (dTup (dCons (dC (.str (Str.ofString "told"))) (dCons (dOp rdMod (dCB rdInt (dCons (dOp rdMul (dVar 0) (dCall sp__law_power (dCons (dVar 1) dNil))) dNil)) (dC (.int 2147483647))) dNil))))))
--_law_due_drawn
def r__law_due_drawn : DS := (dSeq (dIfS (dNotT (dTest (dCall sp__law_is_within (dCons (dVar 0) (dCons (dC (.int 1)) (dCons (dC (.int 2147483646)) dNil)))))) (dRet (dTup (dCons (dC (.str (Str.ofString "NoSeed"))) dNil))) dNext)
    (dSeq (dIfS (dNotT (dTest (dCall sp__law_is_within (dCons (dVar 1) (dCons (dNeg (dC (.int 2147483648))) (dCons (dC (.int 2147483647)) dNil)))))) (dRet (dTup (dCons (dC (.str (Str.ofString "NoNumber"))) dNil))) dNext)
    (dSeq (dIfS (dTest (dOp rdLt (dVar 1) (dC (.int 1)))) (dRet (dTup (dCons (dC (.str (Str.ofString "told"))) (dCons (dTup (dCons (dC (.int 0)) (dCons (dVar 0) dNil))) dNil)))) dNext)
    (dSeq (dAsg (dOp rdMod (dCB rdInt (dCons (dOp rdMul (dVar 0) (dC (.int 48271))) dNil)) (dC (.int 2147483647))) (gN 2))
    (dRet (dTup (dCons (dC (.str (Str.ofString "told"))) (dCons (dTup (dCons (dOp rdMod (dCB rdInt (dCons (dOp rdDiv (dVar 2) (dC (.int 16))) dNil)) (dVar 1)) (dCons (dVar 2) dNil))) dNil))))))))
--_law_some
def r__law_some : DS := (dSeq (dIfS (dTest (dOp rdEq (dCall sp__law_take (dCons (dVar 0) (dCons (dC (.int 3)) dNil))) (dC (.int 0)))) (dRet (dCall sp__law_pick (dCons (dVar 0) (dCons (dLst (dCons (dCall sp__law_odd (dCons (dVar 0) dNil)) (dCons (dC (.int 0)) (dCons (dC (.int 2147483647)) (dCons (dC (.int 2147483648)) (dCons (dNeg (dC (.int 1))) (dCons (dNeg (dC (.int 2147483648))) (dCons (dNeg (dC (.int 2147483649))) dNil)))))))) dNil)))) dNext)
    (dRet (dVar 1)))
--_law_chained
def r__law_chained (c_NoSeed : Addr) : DS := (dSeq (dAsg (dVar 0) (gN 2))
    (dSeq (dFor (iR1 (dCons (dVar 1) dNil)) (gN 3) (dAsg (dCall (sp_next_seed c_NoSeed) (dCons (dVar 2) dNil)) (gN 2)))
    (dRet (dVar 2))))
--law
def r_law (c_NoNumber : Addr) (c_NoSeed : Addr) : DS := (dSeq (dAsg (dCall sp__law_hand (dCons (dVar 0) dNil)) (gN 1))
    (dSeq (dFor (iR1 (dCons (dC (.int 3)) dNil)) (gN 2) (dSeq (dAsg (dCall sp__law_some (dCons (dVar 1) (dCons (dOp rdDiv (dOp rdMul (dCall sp__law_great (dCons (dVar 1) dNil)) (dOp rdSub (dC (.int 1)) (dOp rdMul (dC (.int 2)) (dCall sp__law_take (dCons (dVar 1) (dCons (dC (.int 2)) dNil)))))) (dOp rdIx (dLst (dCons (dC (.int 1)) (dCons (dOp rdPow (dC (.int 10)) (dC (.int 8))) (dCons (dOp rdPow (dC (.int 10)) (dC (.int 10))) dNil)))) (dVar 2))) dNil))) (gN 3))
    (dSeq (dIfS (dNotT (dTest (dCall (sp__law_same 4) (dCons (dCall (sp__law_wrapped c_NoNumber) (dCons (dVar 3) dNil)) (dCons (dCall sp__law_due_wrapped (dCons (dVar 3) dNil)) dNil))))) (dRet (dC (.bl false))) dNext)
    (dSeq (dAsg (dCall sp__law_some (dCons (dVar 1) (dCons (dCall sp__law_seed (dCons (dVar 1) dNil)) dNil))) (gN 4))
    (dSeq (dAsg (dCall sp__law_some (dCons (dVar 1) (dCons (dOp rdDiv (dCall sp__law_great (dCons (dVar 1) dNil)) (dOp rdIx (dLst (dCons (dC (.int 1)) (dCons (dOp rdPow (dC (.int 10)) (dC (.int 10))) (dCons (dOp rdPow (dC (.int 10)) (dC (.int 18))) dNil)))) (dCall sp__law_take (dCons (dVar 1) (dCons (dC (.int 3)) dNil))))) dNil))) (gN 5))
    (dSeq (dAsg (dCall sp__law_some (dCons (dVar 1) (dCons (dCall sp__law_small (dCons (dVar 1) dNil)) dNil))) (gN 6))
    (dSeq (dAsg (dCall sp__law_due_after (dCons (dVar 4) (dCons (dC (.int 1)) dNil))) (gN 7))
    (dSeq (dIfS (dNotT (dTest (dCall (sp__law_same 4) (dCons (dCall (sp__law_next c_NoSeed) (dCons (dVar 4) dNil)) (dCons (dVar 7) dNil))))) (dRet (dC (.bl false))) dNext)
    (dSeq (dIfS (dNotT (dTest (dCall (sp__law_same 4) (dCons (dCall (sp__law_after c_NoNumber c_NoSeed) (dCons (dVar 4) (dCons (dVar 5) dNil))) (dCons (dCall sp__law_due_after (dCons (dVar 4) (dCons (dVar 5) dNil))) dNil))))) (dRet (dC (.bl false))) dNext)
    (dIfS (dNotT (dTest (dCall (sp__law_same 4) (dCons (dCall (sp__law_drawn c_NoNumber c_NoSeed) (dCons (dVar 4) (dCons (dVar 6) dNil))) (dCons (dCall sp__law_due_drawn (dCons (dVar 4) (dCons (dVar 6) dNil))) dNil))))) (dRet (dC (.bl false))) dNext))))))))))
    (dSeq (dAsg (dCall sp__law_seed (dCons (dVar 1) dNil)) (gN 4))
    (dSeq (dAsg (dOp rdDiv (dCall sp__law_great (dCons (dVar 1) dNil)) (dC (.int 2))) (gN 8))
    (dSeq (dAsg (dOp rdDiv (dCall sp__law_great (dCons (dVar 1) dNil)) (dC (.int 2))) (gN 9))
    (dSeq (dAsg (dCall sp__law_take (dCons (dVar 1) (dCons (dC (.int 40)) dNil))) (gN 10))
    (dSeq (dIfS (dNotT (dTest (dCall (sp__law_same 4) (dCons (dCall (sp_seed_after c_NoNumber c_NoSeed) (dCons (dCall (sp_seed_after c_NoNumber c_NoSeed) (dCons (dVar 4) (dCons (dVar 8) dNil))) (dCons (dVar 9) dNil))) (dCons (dOp rdMod (dCB rdInt (dCons (dOp rdMul (dVar 4) (dCall sp__law_power (dCons (dOp rdAdd (dVar 8) (dVar 9)) dNil))) dNil)) (dC (.int 2147483647))) dNil))))) (dRet (dC (.bl false))) dNext)
    (dSeq (dIfS (dNotT (dTest (dCall (sp__law_same 4) (dCons (dCall (sp_seed_after c_NoNumber c_NoSeed) (dCons (dVar 4) (dCons (dOp rdAdd (dVar 8) (dVar 9)) dNil))) (dCons (dOp rdMod (dCB rdInt (dCons (dOp rdMul (dVar 4) (dCall sp__law_power (dCons (dOp rdAdd (dVar 8) (dVar 9)) dNil))) dNil)) (dC (.int 2147483647))) dNil))))) (dRet (dC (.bl false))) dNext)
    (dSeq (dIfS (dNotT (dTest (dCall (sp__law_same 4) (dCons (dCall (sp__law_chained c_NoSeed) (dCons (dVar 4) (dCons (dVar 10) dNil))) (dCons (dCall (sp_seed_after c_NoNumber c_NoSeed) (dCons (dVar 4) (dCons (dVar 10) dNil))) dNil))))) (dRet (dC (.bl false))) dNext)
    (dRet (dAndV (dCall (sp__law_same 4) (dCons (dCall (sp_seed_after c_NoNumber c_NoSeed) (dCons (dVar 4) (dCons (dC (.int 2147483646)) dNil))) (dCons (dVar 4) dNil))) (dCall (sp__law_same 4) (dCons (dCall (sp_seed_after c_NoNumber c_NoSeed) (dCons (dVar 4) (dCons (dC (.int 0)) dNil))) (dCons (dVar 4) dNil))))))))))))))
end Lw

namespace Lw
open PySem PySem.Spec PyProof.Rows L2 VD
theorem rdIx_tup {xs : List Dv} {i : Int} {S : Sto} {Q : QD} : rdIx (.tup xs) (.int i) S Q = ∃ d, atI xs i = some d ∧ Q d S := rfl
theorem rdIx_rol {xs : List Dv} {i : Int} {S : Sto} {Q : QD} : rdIx (.rol xs) (.int i) S Q = ∃ d, atI xs i = some d ∧ Q d S := rfl
theorem ix_ref {xs : List Dv} {a : Addr} {i : Int} {S : Sto} {Q : QD} {d : Dv} (h : S a = some (.lst xs)) (e : atI xs i = some d) (q : Q d S) : rdIx (.ref a) (.int i) S Q := by
  unfold rdIx
  dsimp only
  rw [h]
  exact ⟨d, e, q⟩
theorem within_sml {d : Dv} : within d (-2147483648) 2147483647 = (smlOf d).isSome := by
  cases d with
  | int i =>
    unfold within smlOf
    dsimp only
    by_cases h : -2147483648 ≤ i ∧ i ≤ 2147483647
    · rw [if_pos h, decide_eq_true h.1, decide_eq_true h.2]; rfl
    · rw [if_neg h]
      by_cases h1 : -2147483648 ≤ i
      · rw [decide_eq_true h1, decide_eq_false fun h2 => h ⟨h1, h2⟩]; rfl
      · rw [decide_eq_false h1]; rfl
  | _ => rfl
theorem within_seed {d : Dv} : within d 1 2147483646 = (seedOf d).isSome := by
  cases d with
  | int i =>
    unfold within seedOf
    dsimp only
    by_cases h : 1 ≤ i ∧ i ≤ 2147483646
    · rw [if_pos h, decide_eq_true h.1, decide_eq_true h.2]; rfl
    · rw [if_neg h]
      by_cases h1 : 1 ≤ i
      · rw [decide_eq_true h1, decide_eq_false fun h2 => h ⟨h1, h2⟩]; rfl
      · rw [decide_eq_false h1]; rfl
  | _ => rfl
theorem rd_is_small : Rd r_is_small 1 sp_is_small := by
  rintro ds S Q X ⟨d, rfl, hk, h⟩
  unfold r_is_small
  simp only [dSeq, dAsg, dRet, dRetN, dIfS, dNext, dDrop, dRaise, dBreak, dCont, dTest, dOp, dVar, dC, dCB, dCons, dNil, dCall, dAndV, dOrV, dNotV, dAndT, dOrT, dNotT, dIf, dTup, dLst, dSl, oSome, oNone, dNeg, gN, gT, gConsD, gNilD, gSubD, dChain, dPar, dAug, dLc, dFor, dBM, isLst, iSeqD, iR1, iR2, iR3, dYes, rdAdd, rdSub, rdMul, rdDiv, rdMod, rdPow, rdIAdd, rdCmp, rdIsN, isNon, rdEqG, rdIx, rdSet, rdSl, rdLen, rdInt1, rdInt, rdInt2, rdAppend, startN, wipeD, List.map_cons, List.map_nil, List.length_cons, List.length_nil, Nat.zero_add, Nat.sub_self, Nat.reduceAdd, Nat.reduceSub, List.replicate_succ, List.replicate_zero, List.cons_append, List.nil_append, List.append_nil, List.getElem?_cons_zero, List.getElem?_cons_succ, List.set_cons_zero, List.set_cons_succ, Option.some.injEq, exists_eq_left', DEnds.xd, atI_0, atI_1, atI_2, atI_3, atI_4, atI_5, atI_6, atI_7, ixN_50, ixN_51, ixN_52, ixN_53, ixN_54, ixN_30, ixN_31, ixN_32, put_same, put_put, true_and, and_true]
  exact ⟨d, _, _, rfl, hk, by rw [within_sml]; exact h⟩
theorem rd_check_integers (c : Addr) : Rd (r_check_integers c) 2 (sp_check_integers c) := by
  rintro ds S Q X ⟨d, rfl, hk, h⟩
  unfold r_check_integers
  simp only [dSeq, dAsg, dRet, dRetN, dIfS, dNext, dDrop, dRaise, dBreak, dCont, dTest, dOp, dVar, dC, dCB, dCons, dNil, dCall, dAndV, dOrV, dNotV, dAndT, dOrT, dNotT, dIf, dTup, dLst, dSl, oSome, oNone, dNeg, gN, gT, gConsD, gNilD, gSubD, dChain, dPar, dAug, dLc, dFor, dBM, isLst, iSeqD, iR1, iR2, iR3, dYes, rdAdd, rdSub, rdMul, rdDiv, rdMod, rdPow, rdIAdd, rdCmp, rdIsN, isNon, rdEqG, rdIx, rdSet, rdSl, rdLen, rdInt1, rdInt, rdInt2, rdAppend, startN, wipeD, List.map_cons, List.map_nil, List.length_cons, List.length_nil, Nat.zero_add, Nat.sub_self, Nat.reduceAdd, Nat.reduceSub, List.replicate_succ, List.replicate_zero, List.cons_append, List.nil_append, List.append_nil, List.getElem?_cons_zero, List.getElem?_cons_succ, List.set_cons_zero, List.set_cons_succ, Option.some.injEq, exists_eq_left', DEnds.xd, atI_0, atI_1, atI_2, atI_3, atI_4, atI_5, atI_6, atI_7, ixN_50, ixN_51, ixN_52, ixN_53, ixN_54, ixN_30, ixN_31, ixN_32, put_same, put_put, true_and, and_true]
  refine lc_pure (fun x => .bl (isInt x)) (by rw [sizeLine_eq]; simp) (fun _ _ _ => trivial) (fun x hx T Kq hs hq => ?_) fun p hp => ?_
  · cases List.mem_singleton.mp hx
    simp only [dSeq, dAsg, dRet, dRetN, dIfS, dNext, dDrop, dRaise, dBreak, dCont, dTest, dOp, dVar, dC, dCB, dCons, dNil, dCall, dAndV, dOrV, dNotV, dAndT, dOrT, dNotT, dIf, dTup, dLst, dSl, oSome, oNone, dNeg, gN, gT, gConsD, gNilD, gSubD, dChain, dPar, dAug, dLc, dFor, dBM, isLst, iSeqD, iR1, iR2, iR3, dYes, rdAdd, rdSub, rdMul, rdDiv, rdMod, rdPow, rdIAdd, rdCmp, rdIsN, isNon, rdEqG, rdIx, rdSet, rdSl, rdLen, rdInt1, rdInt, rdInt2, rdAppend, startN, wipeD, List.map_cons, List.map_nil, List.length_cons, List.length_nil, Nat.zero_add, Nat.sub_self, Nat.reduceAdd, Nat.reduceSub, List.replicate_succ, List.replicate_zero, List.cons_append, List.nil_append, List.append_nil, List.getElem?_cons_zero, List.getElem?_cons_succ, List.set_cons_zero, List.set_cons_succ, Option.some.injEq, exists_eq_left', DEnds.xd, atI_0, atI_1, atI_2, atI_3, atI_4, atI_5, atI_6, atI_7, ixN_50, ixN_51, ixN_52, ixN_53, ixN_54, ixN_30, ixN_31, ixN_32, put_same, put_put, true_and, and_true]
    exact ⟨d, rfl, hk.sub hs, hq⟩
  · unfold rdAll lstOf
    dsimp only
    rw [put_same]
    refine ⟨[isInt d], rfl, S, Sub.new hp, ?_⟩
    cases e : isInt d with
    | true => rw [if_pos e] at h; exact h
    | false => rw [if_neg (by rw [e]; decide)] at h; exact h
theorem rd_small : Rd r_small 1 sp_small := by
  rintro ds S Q X ⟨i, rfl, h⟩
  unfold r_small
  simp only [dSeq, dAsg, dRet, dRetN, dIfS, dNext, dDrop, dRaise, dBreak, dCont, dTest, dOp, dVar, dC, dCB, dCons, dNil, dCall, dAndV, dOrV, dNotV, dAndT, dOrT, dNotT, dIf, dTup, dLst, dSl, oSome, oNone, dNeg, gN, gT, gConsD, gNilD, gSubD, dChain, dPar, dAug, dLc, dFor, dBM, isLst, iSeqD, iR1, iR2, iR3, dYes, rdAdd, rdSub, rdMul, rdDiv, rdMod, rdPow, rdIAdd, rdCmp, rdIsN, isNon, rdEqG, rdIx, rdSet, rdSl, rdLen, rdInt1, rdInt, rdInt2, rdAppend, startN, wipeD, List.map_cons, List.map_nil, List.length_cons, List.length_nil, Nat.zero_add, Nat.sub_self, Nat.reduceAdd, Nat.reduceSub, List.replicate_succ, List.replicate_zero, List.cons_append, List.nil_append, List.append_nil, List.getElem?_cons_zero, List.getElem?_cons_succ, List.set_cons_zero, List.set_cons_succ, Option.some.injEq, exists_eq_left', DEnds.xd, atI_0, atI_1, atI_2, atI_3, atI_4, atI_5, atI_6, atI_7, ixN_50, ixN_51, ixN_52, ixN_53, ixN_54, ixN_30, ixN_31, ixN_32, put_same, put_put, true_and, and_true]
  refine ⟨by decide, ?_⟩
  unfold smallF at h
  rw [show i - -2147483648 = i + 2147483648 by omega, ← Int.sub_eq_add_neg]
  exact h
theorem rd_wrapped (c : Addr) : Rd (r_wrapped c) 1 (sp_wrapped c) := by
  rintro ds S Q X ⟨d, rfl, hk, h⟩
  unfold r_wrapped
  simp only [dSeq, dAsg, dRet, dRetN, dIfS, dNext, dDrop, dRaise, dBreak, dCont, dTest, dOp, dVar, dC, dCB, dCons, dNil, dCall, dAndV, dOrV, dNotV, dAndT, dOrT, dNotT, dIf, dTup, dLst, dSl, oSome, oNone, dNeg, gN, gT, gConsD, gNilD, gSubD, dChain, dPar, dAug, dLc, dFor, dBM, isLst, iSeqD, iR1, iR2, iR3, dYes, rdAdd, rdSub, rdMul, rdDiv, rdMod, rdPow, rdIAdd, rdCmp, rdIsN, isNon, rdEqG, rdIx, rdSet, rdSl, rdLen, rdInt1, rdInt, rdInt2, rdAppend, startN, wipeD, List.map_cons, List.map_nil, List.length_cons, List.length_nil, Nat.zero_add, Nat.sub_self, Nat.reduceAdd, Nat.reduceSub, List.replicate_succ, List.replicate_zero, List.cons_append, List.nil_append, List.append_nil, List.getElem?_cons_zero, List.getElem?_cons_succ, List.set_cons_zero, List.set_cons_succ, Option.some.injEq, exists_eq_left', DEnds.xd, atI_0, atI_1, atI_2, atI_3, atI_4, atI_5, atI_6, atI_7, ixN_50, ixN_51, ixN_52, ixN_53, ixN_54, ixN_30, ixN_31, ixN_32, put_same, put_put, true_and, and_true]
  refine ⟨by rw [sizeLine_eq]; decide, d, rfl, hk, ?_⟩
  cases d with
  | int i => exact ⟨i, rfl, h⟩
  | _ => exact h
theorem rd_is_seed : Rd r_is_seed 1 sp_is_seed := by
  rintro ds S Q X ⟨d, rfl, hk, h⟩
  unfold r_is_seed
  simp only [dSeq, dAsg, dRet, dRetN, dIfS, dNext, dDrop, dRaise, dBreak, dCont, dTest, dOp, dVar, dC, dCB, dCons, dNil, dCall, dAndV, dOrV, dNotV, dAndT, dOrT, dNotT, dIf, dTup, dLst, dSl, oSome, oNone, dNeg, gN, gT, gConsD, gNilD, gSubD, dChain, dPar, dAug, dLc, dFor, dBM, isLst, iSeqD, iR1, iR2, iR3, dYes, rdAdd, rdSub, rdMul, rdDiv, rdMod, rdPow, rdIAdd, rdCmp, rdIsN, isNon, rdEqG, rdIx, rdSet, rdSl, rdLen, rdInt1, rdInt, rdInt2, rdAppend, startN, wipeD, List.map_cons, List.map_nil, List.length_cons, List.length_nil, Nat.zero_add, Nat.sub_self, Nat.reduceAdd, Nat.reduceSub, List.replicate_succ, List.replicate_zero, List.cons_append, List.nil_append, List.append_nil, List.getElem?_cons_zero, List.getElem?_cons_succ, List.set_cons_zero, List.set_cons_succ, Option.some.injEq, exists_eq_left', DEnds.xd, atI_0, atI_1, atI_2, atI_3, atI_4, atI_5, atI_6, atI_7, ixN_50, ixN_51, ixN_52, ixN_53, ixN_54, ixN_30, ixN_31, ixN_32, put_same, put_put, true_and, and_true]
  exact ⟨d, _, _, rfl, hk, by rw [show (2147483647 : Int) - 1 = 2147483646 from rfl, within_seed]; exact h⟩
theorem rd_check_seed (c : Addr) : Rd (r_check_seed c) 1 (sp_check_seed c) := by
  rintro ds S Q X ⟨d, rfl, hk, h⟩
  unfold r_check_seed
  simp only [dSeq, dAsg, dRet, dRetN, dIfS, dNext, dDrop, dRaise, dBreak, dCont, dTest, dOp, dVar, dC, dCB, dCons, dNil, dCall, dAndV, dOrV, dNotV, dAndT, dOrT, dNotT, dIf, dTup, dLst, dSl, oSome, oNone, dNeg, gN, gT, gConsD, gNilD, gSubD, dChain, dPar, dAug, dLc, dFor, dBM, isLst, iSeqD, iR1, iR2, iR3, dYes, rdAdd, rdSub, rdMul, rdDiv, rdMod, rdPow, rdIAdd, rdCmp, rdIsN, isNon, rdEqG, rdIx, rdSet, rdSl, rdLen, rdInt1, rdInt, rdInt2, rdAppend, startN, wipeD, List.map_cons, List.map_nil, List.length_cons, List.length_nil, Nat.zero_add, Nat.sub_self, Nat.reduceAdd, Nat.reduceSub, List.replicate_succ, List.replicate_zero, List.cons_append, List.nil_append, List.append_nil, List.getElem?_cons_zero, List.getElem?_cons_succ, List.set_cons_zero, List.set_cons_succ, Option.some.injEq, exists_eq_left', DEnds.xd, atI_0, atI_1, atI_2, atI_3, atI_4, atI_5, atI_6, atI_7, ixN_50, ixN_51, ixN_52, ixN_53, ixN_54, ixN_30, ixN_31, ixN_32, put_same, put_put, true_and, and_true]
  refine ⟨d, rfl, hk, ?_⟩
  cases e : (seedOf d).isSome with
  | true => rw [if_pos e] at h; exact h
  | false => rw [if_neg (by rw [e]; decide)] at h; exact h
theorem rd_later_seed : Rd r_later_seed 1 sp_later_seed := by
  rintro ds S Q X ⟨i, rfl, h⟩
  unfold r_later_seed
  simp only [dSeq, dAsg, dRet, dRetN, dIfS, dNext, dDrop, dRaise, dBreak, dCont, dTest, dOp, dVar, dC, dCB, dCons, dNil, dCall, dAndV, dOrV, dNotV, dAndT, dOrT, dNotT, dIf, dTup, dLst, dSl, oSome, oNone, dNeg, gN, gT, gConsD, gNilD, gSubD, dChain, dPar, dAug, dLc, dFor, dBM, isLst, iSeqD, iR1, iR2, iR3, dYes, rdAdd, rdSub, rdMul, rdDiv, rdMod, rdPow, rdIAdd, rdCmp, rdIsN, isNon, rdEqG, rdIx, rdSet, rdSl, rdLen, rdInt1, rdInt, rdInt2, rdAppend, startN, wipeD, List.map_cons, List.map_nil, List.length_cons, List.length_nil, Nat.zero_add, Nat.sub_self, Nat.reduceAdd, Nat.reduceSub, List.replicate_succ, List.replicate_zero, List.cons_append, List.nil_append, List.append_nil, List.getElem?_cons_zero, List.getElem?_cons_succ, List.set_cons_zero, List.set_cons_succ, Option.some.injEq, exists_eq_left', DEnds.xd, atI_0, atI_1, atI_2, atI_3, atI_4, atI_5, atI_6, atI_7, ixN_50, ixN_51, ixN_52, ixN_53, ixN_54, ixN_30, ixN_31, ixN_32, put_same, put_put, true_and, and_true]
  exact ⟨mulok_r (by decide) (by decide), by decide, h⟩
theorem seed_i {d : Dv} {s : Int} (h : seedOf d = some s) : d = .int s ∧ 1 ≤ s ∧ s ≤ 2147483646 := by
  cases d with
  | int i =>
    unfold seedOf at h
    dsimp only at h
    split at h
    · cases h; exact ⟨rfl, by assumption⟩
    · cases h
  | _ => cases h
theorem sml_i {d : Dv} {s : Int} (h : smlOf d = some s) : d = .int s ∧ -2147483648 ≤ s ∧ s ≤ 2147483647 := by
  cases d with
  | int i =>
    unfold smlOf at h
    dsimp only at h
    split at h
    · cases h; exact ⟨rfl, by assumption⟩
    · cases h
  | _ => cases h
theorem nat_i {d : Dv} {s : Nat} (h : natOf d = some s) : d = .int s := by
  cases d with
  | int i =>
    unfold natOf at h
    dsimp only at h
    split at h
    · cases h; rw [Int.toNat_of_nonneg (by assumption)]
    · cases h
  | _ => cases h
theorem rd_next_seed (c : Addr) : Rd (r_next_seed c) 1 (sp_next_seed c) := by
  rintro ds S Q X ⟨d, rfl, hk, h⟩
  unfold r_next_seed
  simp only [dSeq, dAsg, dRet, dRetN, dIfS, dNext, dDrop, dRaise, dBreak, dCont, dTest, dOp, dVar, dC, dCB, dCons, dNil, dCall, dAndV, dOrV, dNotV, dAndT, dOrT, dNotT, dIf, dTup, dLst, dSl, oSome, oNone, dNeg, gN, gT, gConsD, gNilD, gSubD, dChain, dPar, dAug, dLc, dFor, dBM, isLst, iSeqD, iR1, iR2, iR3, dYes, rdAdd, rdSub, rdMul, rdDiv, rdMod, rdPow, rdIAdd, rdCmp, rdIsN, isNon, rdEqG, rdIx, rdSet, rdSl, rdLen, rdInt1, rdInt, rdInt2, rdAppend, startN, wipeD, List.map_cons, List.map_nil, List.length_cons, List.length_nil, Nat.zero_add, Nat.sub_self, Nat.reduceAdd, Nat.reduceSub, List.replicate_succ, List.replicate_zero, List.cons_append, List.nil_append, List.append_nil, List.getElem?_cons_zero, List.getElem?_cons_succ, List.set_cons_zero, List.set_cons_succ, Option.some.injEq, exists_eq_left', DEnds.xd, atI_0, atI_1, atI_2, atI_3, atI_4, atI_5, atI_6, atI_7, ixN_50, ixN_51, ixN_52, ixN_53, ixN_54, ixN_30, ixN_31, ixN_32, put_same, put_put, true_and, and_true]
  refine ⟨d, rfl, hk, ?_⟩
  cases e : seedOf d with
  | none => rw [e] at h; exact h
  | some s =>
    rw [e] at h
    obtain ⟨rfl, _⟩ := seed_i e
    exact ⟨s, rfl, h⟩
/-! ### powers -/
theorem pow_add (m n : Nat) : powF (m + n) = powF m * powF n % 2147483647 := by
  unfold powF
  rw [Int.pow_add, Int.mul_emod]
theorem powF_in (n : Nat) : 0 ≤ powF n ∧ powF n < 2147483647 := ⟨Int.emod_nonneg _ (by decide), Int.emod_lt_of_pos _ (by decide)⟩
theorem mul3 (a b : Int) : a * (b % 2147483647) % 2147483647 = a * b % 2147483647 := by
  rw [Int.mul_emod, Int.emod_emod_of_dvd _ (Int.dvd_refl _), ← Int.mul_emod]
theorem mul4 (a b : Int) : (a % 2147483647) * b % 2147483647 = a * b % 2147483647 := by
  rw [Int.mul_emod, Int.emod_emod_of_dvd _ (Int.dvd_refl _), ← Int.mul_emod]
theorem powm (a : Int) (n : Nat) : (a % 2147483647) ^ n % 2147483647 = a ^ n % 2147483647 := by
  induction n with
  | zero => rw [Int.pow_zero, Int.pow_zero]
  | succ n ih => rw [Int.pow_succ, Int.pow_succ, mul3, Int.mul_emod, ih, ← Int.mul_emod]
theorem rd_power_left : Rd r_power_left 5 sp_power_left := by
  rintro ds S Q X ⟨n, rfl, h⟩
  unfold r_power_left
  simp only [dSeq, dAsg, dRet, dRetN, dIfS, dNext, dDrop, dRaise, dBreak, dCont, dTest, dOp, dVar, dC, dCB, dCons, dNil, dCall, dAndV, dOrV, dNotV, dAndT, dOrT, dNotT, dIf, dTup, dLst, dSl, oSome, oNone, dNeg, gN, gT, gConsD, gNilD, gSubD, dChain, dPar, dAug, dLc, dFor, dBM, isLst, iSeqD, iR1, iR2, iR3, dYes, rdAdd, rdSub, rdMul, rdDiv, rdMod, rdPow, rdIAdd, rdCmp, rdIsN, isNon, rdEqG, rdIx, rdSet, rdSl, rdLen, rdInt1, rdInt, rdInt2, rdAppend, startN, wipeD, List.map_cons, List.map_nil, List.length_cons, List.length_nil, Nat.zero_add, Nat.sub_self, Nat.reduceAdd, Nat.reduceSub, List.replicate_succ, List.replicate_zero, List.cons_append, List.nil_append, List.append_nil, List.getElem?_cons_zero, List.getElem?_cons_succ, List.set_cons_zero, List.set_cons_succ, Option.some.injEq, exists_eq_left', DEnds.xd, atI_0, atI_1, atI_2, atI_3, atI_4, atI_5, atI_6, atI_7, ixN_50, ixN_51, ixN_52, ixN_53, ixN_54, ixN_30, ixN_31, ixN_32, put_same, put_put, true_and, and_true]
  refine ⟨by decide, ?_⟩
  unfold dWhile
  refine ⟨fun m ρ T => T = S ∧ ∃ (f q : Int), (0 ≤ f ∧ f < 2147483647) ∧ (0 ≤ q ∧ q < 2147483647) ∧ f * q ^ m % 2147483647 = powF n ∧ ρ = [some (.int 48271), some (.int n), some (.int f), some (.int q), some (.int m)], ⟨n, rfl, 1, 48271 % 2147483647, by decide, by decide, ?_, rfl⟩, ?_⟩
  · rw [Int.one_mul, powm]; rfl
  rintro m ρ T ⟨rfl, f, q, hf, hq, hp, rfl⟩
  simp only [dSeq, dAsg, dRet, dRetN, dIfS, dNext, dDrop, dRaise, dBreak, dCont, dTest, dOp, dVar, dC, dCB, dCons, dNil, dCall, dAndV, dOrV, dNotV, dAndT, dOrT, dNotT, dIf, dTup, dLst, dSl, oSome, oNone, dNeg, gN, gT, gConsD, gNilD, gSubD, dChain, dPar, dAug, dLc, dFor, dBM, isLst, iSeqD, iR1, iR2, iR3, dYes, rdAdd, rdSub, rdMul, rdDiv, rdMod, rdPow, rdIAdd, rdCmp, rdIsN, isNon, rdEqG, rdIx, rdSet, rdSl, rdLen, rdInt1, rdInt, rdInt2, rdAppend, startN, wipeD, List.map_cons, List.map_nil, List.length_cons, List.length_nil, Nat.zero_add, Nat.sub_self, Nat.reduceAdd, Nat.reduceSub, List.replicate_succ, List.replicate_zero, List.cons_append, List.nil_append, List.append_nil, List.getElem?_cons_zero, List.getElem?_cons_succ, List.set_cons_zero, List.set_cons_succ, Option.some.injEq, exists_eq_left', DEnds.xd, atI_0, atI_1, atI_2, atI_3, atI_4, atI_5, atI_6, atI_7, ixN_50, ixN_51, ixN_52, ixN_53, ixN_54, ixN_30, ixN_31, ixN_32, put_same, put_put, true_and, and_true]
  by_cases h0 : m = 0
  · subst h0
    refine iteF ?_
    rw [Int.pow_zero, Int.mul_one, Int.emod_eq_of_lt hf.1 hf.2] at hp
    rw [hp]
    exact h
  · rw [if_pos (decide_eq_true (by omega))]
    refine ⟨by decide, ?_⟩
    have em : (m : Int) / 2 = ((m / 2 : Nat) : Int) := by omega
    have e2 : m = 2 * (m / 2) + m % 2 := by omega
    have qq : ∀ k : Nat, (q * q % 2147483647) ^ k % 2147483647 = q ^ (2 * k) % 2147483647 := fun k => by
      rw [powm, Int.pow_mul, show q ^ 2 = q * q by rw [Int.pow_succ, Int.pow_succ, Int.pow_zero, Int.one_mul]]
    have hd : CDivP m 2 := divp 64 (by decide) (by decide)
    by_cases h1 : (m : Int) % 2 = 1
    · rw [if_pos (decide_eq_true h1)]
      refine ⟨mulok_l (by omega) (by omega), by decide, mulok_l (by omega) (by omega), by decide, ?_⟩
      refine ⟨divp 64 (by decide) (by decide), m / 2, by omega, _, _, ⟨Int.emod_nonneg _ (by decide), Int.emod_lt_of_pos _ (by decide)⟩, ⟨Int.emod_nonneg _ (by decide), Int.emod_lt_of_pos _ (by decide)⟩, ?_, by rw [em]⟩
      rw [mul4, ← mul3, qq, mul3, ← hp]
      have e3 : q ^ m = q * q ^ (2 * (m / 2)) := by
        conv => lhs; rw [e2, show m % 2 = 1 by omega, Int.pow_succ, Int.mul_comm]
      rw [e3, Int.mul_assoc]
    · rw [if_neg (by rw [decide_eq_false h1]; decide)]
      refine ⟨mulok_l (by omega) (by omega), by decide, ?_⟩
      refine ⟨divp 64 (by decide) (by decide), m / 2, by omega, f, _, hf, ⟨Int.emod_nonneg _ (by decide), Int.emod_lt_of_pos _ (by decide)⟩, ?_, by rw [em]⟩
      rw [← mul3, qq, mul3, ← hp]
      have e3 : q ^ m = q ^ (2 * (m / 2)) := by
        conv => lhs; rw [e2, show m % 2 = 0 by omega, Nat.add_zero]
      rw [e3]
theorem rd_seed_after (c c2 : Addr) : Rd (r_seed_after c c2) 2 (sp_seed_after c c2) := by
  rintro ds S Q X ⟨d, m, rfl, hk, hk2, h⟩
  unfold r_seed_after
  simp only [dSeq, dAsg, dRet, dRetN, dIfS, dNext, dDrop, dRaise, dBreak, dCont, dTest, dOp, dVar, dC, dCB, dCons, dNil, dCall, dAndV, dOrV, dNotV, dAndT, dOrT, dNotT, dIf, dTup, dLst, dSl, oSome, oNone, dNeg, gN, gT, gConsD, gNilD, gSubD, dChain, dPar, dAug, dLc, dFor, dBM, isLst, iSeqD, iR1, iR2, iR3, dYes, rdAdd, rdSub, rdMul, rdDiv, rdMod, rdPow, rdIAdd, rdCmp, rdIsN, isNon, rdEqG, rdIx, rdSet, rdSl, rdLen, rdInt1, rdInt, rdInt2, rdAppend, startN, wipeD, List.map_cons, List.map_nil, List.length_cons, List.length_nil, Nat.zero_add, Nat.sub_self, Nat.reduceAdd, Nat.reduceSub, List.replicate_succ, List.replicate_zero, List.cons_append, List.nil_append, List.append_nil, List.getElem?_cons_zero, List.getElem?_cons_succ, List.set_cons_zero, List.set_cons_succ, Option.some.injEq, exists_eq_left', DEnds.xd, atI_0, atI_1, atI_2, atI_3, atI_4, atI_5, atI_6, atI_7, ixN_50, ixN_51, ixN_52, ixN_53, ixN_54, ixN_30, ixN_31, ixN_32, put_same, put_put, true_and, and_true]
  refine ⟨d, rfl, hk, ?_⟩
  cases e : seedOf d with
  | none => rw [e] at h; exact h
  | some s =>
    rw [e] at h
    obtain ⟨rfl, _⟩ := seed_i e
    refine iteT ⟨m, rfl, hk2, ?_⟩
    cases e2 : natOf m with
    | some n =>
      rw [e2] at h
      have := nat_i e2
      subst this
      refine iteF ?_
      have e9 : decide ((n : Int) < 0) = false := decide_eq_false (by omega)
      simp only [dSeq, dAsg, dRet, dRetN, dIfS, dNext, dDrop, dRaise, dBreak, dCont, dTest, dOp, dVar, dC, dCB, dCons, dNil, dCall, dAndV, dOrV, dNotV, dAndT, dOrT, dNotT, dIf, dTup, dLst, dSl, oSome, oNone, dNeg, gN, gT, gConsD, gNilD, gSubD, dChain, dPar, dAug, dLc, dFor, dBM, isLst, iSeqD, iR1, iR2, iR3, dYes, rdAdd, rdSub, rdMul, rdDiv, rdMod, rdPow, rdIAdd, rdCmp, rdIsN, isNon, rdEqG, rdIx, rdSet, rdSl, rdLen, rdInt1, rdInt, rdInt2, rdAppend, startN, wipeD, List.map_cons, List.map_nil, List.length_cons, List.length_nil, Nat.zero_add, Nat.sub_self, Nat.reduceAdd, Nat.reduceSub, List.replicate_succ, List.replicate_zero, List.cons_append, List.nil_append, List.append_nil, List.getElem?_cons_zero, List.getElem?_cons_succ, List.set_cons_zero, List.set_cons_succ, Option.some.injEq, exists_eq_left', DEnds.xd, atI_0, atI_1, atI_2, atI_3, atI_4, atI_5, atI_6, atI_7, ixN_50, ixN_51, ixN_52, ixN_53, ixN_54, ixN_30, ixN_31, ixN_32, put_same, put_put, true_and, and_true]
      rw [if_neg (by rw [e9]; decide)]
      exact ⟨n, rfl, mulok_l (by omega) (by omega), by decide, h⟩
    | none =>
      rw [e2] at h
      cases m with
      | int i =>
        unfold natOf at e2
        dsimp only at e2
        split at e2
        · cases e2
        · refine iteF ?_
          simp only [dSeq, dAsg, dRet, dRetN, dIfS, dNext, dDrop, dRaise, dBreak, dCont, dTest, dOp, dVar, dC, dCB, dCons, dNil, dCall, dAndV, dOrV, dNotV, dAndT, dOrT, dNotT, dIf, dTup, dLst, dSl, oSome, oNone, dNeg, gN, gT, gConsD, gNilD, gSubD, dChain, dPar, dAug, dLc, dFor, dBM, isLst, iSeqD, iR1, iR2, iR3, dYes, rdAdd, rdSub, rdMul, rdDiv, rdMod, rdPow, rdIAdd, rdCmp, rdIsN, isNon, rdEqG, rdIx, rdSet, rdSl, rdLen, rdInt1, rdInt, rdInt2, rdAppend, startN, wipeD, List.map_cons, List.map_nil, List.length_cons, List.length_nil, Nat.zero_add, Nat.sub_self, Nat.reduceAdd, Nat.reduceSub, List.replicate_succ, List.replicate_zero, List.cons_append, List.nil_append, List.append_nil, List.getElem?_cons_zero, List.getElem?_cons_succ, List.set_cons_zero, List.set_cons_succ, Option.some.injEq, exists_eq_left', DEnds.xd, atI_0, atI_1, atI_2, atI_3, atI_4, atI_5, atI_6, atI_7, ixN_50, ixN_51, ixN_52, ixN_53, ixN_54, ixN_30, ixN_31, ixN_32, put_same, put_put, true_and, and_true]
          rw [if_pos (decide_eq_true (by omega))]
          exact h
      | _ => exact h
theorem rd_draw : Rd r_draw 3 sp_draw := by
  rintro ds S Q X ⟨s, b, rfl, hb, h⟩
  unfold r_draw
  simp only [dSeq, dAsg, dRet, dRetN, dIfS, dNext, dDrop, dRaise, dBreak, dCont, dTest, dOp, dVar, dC, dCB, dCons, dNil, dCall, dAndV, dOrV, dNotV, dAndT, dOrT, dNotT, dIf, dTup, dLst, dSl, oSome, oNone, dNeg, gN, gT, gConsD, gNilD, gSubD, dChain, dPar, dAug, dLc, dFor, dBM, isLst, iSeqD, iR1, iR2, iR3, dYes, rdAdd, rdSub, rdMul, rdDiv, rdMod, rdPow, rdIAdd, rdCmp, rdIsN, isNon, rdEqG, rdIx, rdSet, rdSl, rdLen, rdInt1, rdInt, rdInt2, rdAppend, startN, wipeD, List.map_cons, List.map_nil, List.length_cons, List.length_nil, Nat.zero_add, Nat.sub_self, Nat.reduceAdd, Nat.reduceSub, List.replicate_succ, List.replicate_zero, List.cons_append, List.nil_append, List.append_nil, List.getElem?_cons_zero, List.getElem?_cons_succ, List.set_cons_zero, List.set_cons_succ, Option.some.injEq, exists_eq_left', DEnds.xd, atI_0, atI_1, atI_2, atI_3, atI_4, atI_5, atI_6, atI_7, ixN_50, ixN_51, ixN_52, ixN_53, ixN_54, ixN_30, ixN_31, ixN_32, put_same, put_put, true_and, and_true]
  unfold drawF at h
  by_cases h1 : b < 1
  · rw [if_pos h1] at h
    rw [if_pos (decide_eq_true h1)]
    exact ⟨by rw [sizeLine_eq]; decide, h⟩
  · rw [if_neg h1] at h
    rw [if_neg (by rw [decide_eq_false h1]; decide)]
    exact ⟨s, rfl, divp 64 (by decide) (by decide), by omega, by rw [sizeLine_eq]; decide, h⟩
theorem rd_drawn (c c2 : Addr) : Rd (r_drawn c c2) 2 (sp_drawn c c2) := by
  rintro ds S Q X ⟨d, m, rfl, hk, hk2, h⟩
  unfold r_drawn
  simp only [dSeq, dAsg, dRet, dRetN, dIfS, dNext, dDrop, dRaise, dBreak, dCont, dTest, dOp, dVar, dC, dCB, dCons, dNil, dCall, dAndV, dOrV, dNotV, dAndT, dOrT, dNotT, dIf, dTup, dLst, dSl, oSome, oNone, dNeg, gN, gT, gConsD, gNilD, gSubD, dChain, dPar, dAug, dLc, dFor, dBM, isLst, iSeqD, iR1, iR2, iR3, dYes, rdAdd, rdSub, rdMul, rdDiv, rdMod, rdPow, rdIAdd, rdCmp, rdIsN, isNon, rdEqG, rdIx, rdSet, rdSl, rdLen, rdInt1, rdInt, rdInt2, rdAppend, startN, wipeD, List.map_cons, List.map_nil, List.length_cons, List.length_nil, Nat.zero_add, Nat.sub_self, Nat.reduceAdd, Nat.reduceSub, List.replicate_succ, List.replicate_zero, List.cons_append, List.nil_append, List.append_nil, List.getElem?_cons_zero, List.getElem?_cons_succ, List.set_cons_zero, List.set_cons_succ, Option.some.injEq, exists_eq_left', DEnds.xd, atI_0, atI_1, atI_2, atI_3, atI_4, atI_5, atI_6, atI_7, ixN_50, ixN_51, ixN_52, ixN_53, ixN_54, ixN_30, ixN_31, ixN_32, put_same, put_put, true_and, and_true]
  refine ⟨d, rfl, hk, ?_⟩
  cases e : seedOf d with
  | none => rw [e] at h; exact h
  | some s =>
    rw [e] at h
    obtain ⟨rfl, _⟩ := seed_i e
    refine iteT ⟨m, rfl, hk2, ?_⟩
    cases e2 : smlOf m with
    | some n =>
      rw [e2] at h
      obtain ⟨rfl, _, h9⟩ := sml_i e2
      exact ⟨s, n, rfl, h9, h⟩
    | none =>
      rw [e2] at h
      exact h
theorem rd__law_is_integer : Rd r__law_is_integer 1 sp__law_is_integer := rd_is_integer
theorem rd__law_is_within : Rd r__law_is_within 3 sp__law_is_within := by
  rintro ds S Q X ⟨d, a, b, rfl, hk, h⟩
  unfold r__law_is_within
  simp only [dSeq, dAsg, dRet, dRetN, dIfS, dNext, dDrop, dRaise, dBreak, dCont, dTest, dOp, dVar, dC, dCB, dCons, dNil, dCall, dAndV, dOrV, dNotV, dAndT, dOrT, dNotT, dIf, dTup, dLst, dSl, oSome, oNone, dNeg, gN, gT, gConsD, gNilD, gSubD, dChain, dPar, dAug, dLc, dFor, dBM, isLst, iSeqD, iR1, iR2, iR3, dYes, rdAdd, rdSub, rdMul, rdDiv, rdMod, rdPow, rdIAdd, rdCmp, rdIsN, isNon, rdEqG, rdIx, rdSet, rdSl, rdLen, rdInt1, rdInt, rdInt2, rdAppend, startN, wipeD, List.map_cons, List.map_nil, List.length_cons, List.length_nil, Nat.zero_add, Nat.sub_self, Nat.reduceAdd, Nat.reduceSub, List.replicate_succ, List.replicate_zero, List.cons_append, List.nil_append, List.append_nil, List.getElem?_cons_zero, List.getElem?_cons_succ, List.set_cons_zero, List.set_cons_succ, Option.some.injEq, exists_eq_left', DEnds.xd, atI_0, atI_1, atI_2, atI_3, atI_4, atI_5, atI_6, atI_7, ixN_50, ixN_51, ixN_52, ixN_53, ixN_54, ixN_30, ixN_31, ixN_32, put_same, put_put, true_and, and_true]
  refine ⟨d, rfl, hk, ?_⟩
  cases d with
  | int i =>
    unfold within at h
    unfold isInt
    dsimp only
    simp only [dSeq, dAsg, dRet, dRetN, dIfS, dNext, dDrop, dRaise, dBreak, dCont, dTest, dOp, dVar, dC, dCB, dCons, dNil, dCall, dAndV, dOrV, dNotV, dAndT, dOrT, dNotT, dIf, dTup, dLst, dSl, oSome, oNone, dNeg, gN, gT, gConsD, gNilD, gSubD, dChain, dPar, dAug, dLc, dFor, dBM, isLst, iSeqD, iR1, iR2, iR3, dYes, rdAdd, rdSub, rdMul, rdDiv, rdMod, rdPow, rdIAdd, rdCmp, rdIsN, isNon, rdEqG, rdIx, rdSet, rdSl, rdLen, rdInt1, rdInt, rdInt2, rdAppend, startN, wipeD, List.map_cons, List.map_nil, List.length_cons, List.length_nil, Nat.zero_add, Nat.sub_self, Nat.reduceAdd, Nat.reduceSub, List.replicate_succ, List.replicate_zero, List.cons_append, List.nil_append, List.append_nil, List.getElem?_cons_zero, List.getElem?_cons_succ, List.set_cons_zero, List.set_cons_succ, Option.some.injEq, exists_eq_left', DEnds.xd, atI_0, atI_1, atI_2, atI_3, atI_4, atI_5, atI_6, atI_7, ixN_50, ixN_51, ixN_52, ixN_53, ixN_54, ixN_30, ixN_31, ixN_32, put_same, put_put, true_and, and_true]
    by_cases h1 : a ≤ i
    · simp only [h1, decide_true, Bool.true_and] at h ⊢
      exact h
    · simp only [h1, decide_false, Bool.false_and] at h ⊢
      exact h
  | _ => exact h
end Lw

namespace Lw
open PySem PySem.Spec PyProof.Rows L2 VD
theorem rd__law_hand : Rd r__law_hand 1 sp__law_hand := by
  rintro ds S Q X ⟨ns, rfl, h⟩
  unfold r__law_hand
  simp only [dSeq, dAsg, dRet, dRetN, dIfS, dNext, dDrop, dRaise, dBreak, dCont, dTest, dOp, dVar, dC, dCB, dCons, dNil, dCall, dAndV, dOrV, dNotV, dAndT, dOrT, dNotT, dIf, dTup, dLst, dSl, oSome, oNone, dNeg, gN, gT, gConsD, gNilD, gSubD, dChain, dPar, dAug, dLc, dFor, dBM, isLst, iSeqD, iR1, iR2, iR3, dYes, rdAdd, rdSub, rdMul, rdDiv, rdMod, rdPow, rdIAdd, rdCmp, rdIsN, isNon, rdEqG, rdIx, rdSet, rdSl, rdLen, rdInt1, rdInt, rdInt2, rdAppend, startN, wipeD, List.map_cons, List.map_nil, List.length_cons, List.length_nil, Nat.zero_add, Nat.sub_self, Nat.reduceAdd, Nat.reduceSub, List.replicate_succ, List.replicate_zero, List.cons_append, List.nil_append, List.append_nil, List.getElem?_cons_zero, List.getElem?_cons_succ, List.set_cons_zero, List.set_cons_succ, Option.some.injEq, exists_eq_left', DEnds.xd, atI_0, atI_1, atI_2, atI_3, atI_4, atI_5, atI_6, atI_7, ixN_50, ixN_51, ixN_52, ixN_53, ixN_54, ixN_30, ixN_31, ixN_32, put_same, put_put, true_and, and_true]
  unfold rdList seqOf
  dsimp only
  refine fun p hp => ⟨by rw [sizeLine_eq]; decide, fun r hr => ?_⟩
  exact h r p _ ⟨0, 0, 1, 0, ns, put_same, by rw [put_ne (ne_of put_same hr)]; exact put_same, ne_of put_same hr, by decide⟩
theorem mul_small {i j : Int} (h : 0 ≤ i) (h2 : i < 2147483647) : IntMulOk i j := mulok_l (by omega) (by omega)
theorem rd__law_take : Rd r__law_take 5 sp__law_take := by
  rintro ds S Q X ⟨a, c, m, rfl, hH, hm, hm2, h⟩
  unfold r__law_take
  refine cut_seq (fun ρ T => Hd a c S T ∧ ρ = [some (.ref a), some (.int m), none, none, none]) (fun N hN => ?_) (fun ρ T hM => ?_)
  · obtain ⟨i, g, k, n, cells, ha, hc, hca, hi⟩ := id hH
    simp only [dSeq, dAsg, dRet, dRetN, dIfS, dNext, dDrop, dRaise, dBreak, dCont, dTest, dOp, dVar, dC, dCB, dCons, dNil, dCall, dAndV, dOrV, dNotV, dAndT, dOrT, dNotT, dIf, dTup, dLst, dSl, oSome, oNone, dNeg, gN, gT, gConsD, gNilD, gSubD, dChain, dPar, dAug, dLc, dFor, dBM, isLst, iSeqD, iR1, iR2, iR3, dYes, rdAdd, rdSub, rdMul, rdDiv, rdMod, rdPow, rdIAdd, rdCmp, rdIsN, isNon, rdEqG, rdIx, rdSet, rdSl, rdLen, rdInt1, rdInt, rdInt2, rdAppend, startN, wipeD, List.map_cons, List.map_nil, List.length_cons, List.length_nil, Nat.zero_add, Nat.sub_self, Nat.reduceAdd, Nat.reduceSub, List.replicate_succ, List.replicate_zero, List.cons_append, List.nil_append, List.append_nil, List.getElem?_cons_zero, List.getElem?_cons_succ, List.set_cons_zero, List.set_cons_succ, Option.some.injEq, exists_eq_left', DEnds.xd, atI_0, atI_1, atI_2, atI_3, atI_4, atI_5, atI_6, atI_7, ixN_50, ixN_51, ixN_52, ixN_53, ixN_54, ixN_30, ixN_31, ixN_32, put_same, put_put, true_and, and_true, ha, hc, put_ne hca]
    exact hN _ _ ⟨Hand.upd hc hca hi, rfl⟩
  obtain ⟨hd0, rfl⟩ := hM
  refine cut_seq (fun ρ T => Hd a c S T ∧ ∃ y, ρ = [some (.ref a), some (.int m), y, none, none]) (fun N hN => ?_) (fun ρ T hM => ?_)
  · obtain ⟨i, g, k, n, cells, ha, hc, hca, hi⟩ := id hd0.h
    simp only [dIfS, dTest, dOp, dVar, dC, dCB, dCons, dNil, dCall, dAndV, dOrV, dNotV, dAndT, dOrT, dNotT, dIf, dTup, dLst, dSl, oSome, oNone, dNeg, gN, gT, gConsD, gNilD, gSubD, dChain, dLc, dBM, isLst, iSeqD, iR1, iR2, iR3, dYes, rdAdd, rdSub, rdMul, rdDiv, rdMod, rdPow, rdIAdd, rdCmp, rdIsN, isNon, rdEqG, rdIx, rdSet, rdSl, rdLen, rdInt1, rdInt, rdInt2, rdAppend, startN, wipeD, List.map_cons, List.map_nil, List.length_cons, List.length_nil, Nat.zero_add, Nat.sub_self, Nat.reduceAdd, Nat.reduceSub, List.replicate_succ, List.replicate_zero, List.cons_append, List.nil_append, List.append_nil, List.getElem?_cons_zero, List.getElem?_cons_succ, List.set_cons_zero, List.set_cons_succ, Option.some.injEq, exists_eq_left', DEnds.xd, atI_0, atI_1, atI_2, atI_3, atI_4, atI_5, atI_6, atI_7, ixN_50, ixN_51, ixN_52, ixN_53, ixN_54, ixN_30, ixN_31, ixN_32, put_same, put_put, true_and, and_true, ha, hc, put_ne hca]
    have e0 : ∃ y, [some (Dv.ref a), some (Dv.int m), none, none, none] = [some (.ref a), some (.int m), y, none, none] := ⟨_, rfl⟩
    by_cases h1 : g = 0
    · rw [if_pos (decide_eq_true h1)]
      by_cases h2 : i < ((List.map Dv.int cells).length : Int)
      · rw [if_pos (decide_eq_true h2)]
        have hr : i.toNat < cells.length := by rw [List.length_map] at h2; omega
        refine cut_seq (fun ρ U => U = T ∧ ∃ z, ρ = [some (.ref a), some (.int m), some (.int z), none, none]) (fun N2 hN2 => ?_) (fun ρ U hM => ?_)
        · simp only [dSeq, dAsg, dRet, dRetN, dIfS, dNext, dDrop, dRaise, dBreak, dCont, dTest, dOp, dVar, dC, dCB, dCons, dNil, dCall, dAndV, dOrV, dNotV, dAndT, dOrT, dNotT, dIf, dTup, dLst, dSl, oSome, oNone, dNeg, gN, gT, gConsD, gNilD, gSubD, dChain, dPar, dAug, dLc, dFor, dBM, isLst, iSeqD, iR1, iR2, iR3, dYes, rdAdd, rdSub, rdMul, rdDiv, rdMod, rdPow, rdIAdd, rdCmp, rdIsN, isNon, rdEqG, rdIx, rdSet, rdSl, rdLen, rdInt1, rdInt, rdInt2, rdAppend, startN, wipeD, List.map_cons, List.map_nil, List.length_cons, List.length_nil, Nat.zero_add, Nat.sub_self, Nat.reduceAdd, Nat.reduceSub, List.replicate_succ, List.replicate_zero, List.cons_append, List.nil_append, List.append_nil, List.getElem?_cons_zero, List.getElem?_cons_succ, List.set_cons_zero, List.set_cons_succ, Option.some.injEq, exists_eq_left', DEnds.xd, atI_0, atI_1, atI_2, atI_3, atI_4, atI_5, atI_6, atI_7, ixN_50, ixN_51, ixN_52, ixN_53, ixN_54, ixN_30, ixN_31, ixN_32, put_same, put_put, true_and, and_true, ha, hc, put_ne hca]
          exact ⟨.int cells[i.toNat], by rw [atI_nn hi, List.getElem?_map, List.getElem?_eq_getElem hr]; rfl, hN2 _ _ ⟨rfl, _, rfl⟩⟩
        · obtain ⟨rfl, z, rfl⟩ := hM
          simp only [dSeq, dAsg, dRet, dRetN, dIfS, dNext, dDrop, dRaise, dBreak, dCont, dTest, dOp, dVar, dC, dCB, dCons, dNil, dCall, dAndV, dOrV, dNotV, dAndT, dOrT, dNotT, dIf, dTup, dLst, dSl, oSome, oNone, dNeg, gN, gT, gConsD, gNilD, gSubD, dChain, dPar, dAug, dLc, dFor, dBM, isLst, iSeqD, iR1, iR2, iR3, dYes, rdAdd, rdSub, rdMul, rdDiv, rdMod, rdPow, rdIAdd, rdCmp, rdIsN, isNon, rdEqG, rdIx, rdSet, rdSl, rdLen, rdInt1, rdInt, rdInt2, rdAppend, startN, wipeD, List.map_cons, List.map_nil, List.length_cons, List.length_nil, Nat.zero_add, Nat.sub_self, Nat.reduceAdd, Nat.reduceSub, List.replicate_succ, List.replicate_zero, List.cons_append, List.nil_append, List.append_nil, List.getElem?_cons_zero, List.getElem?_cons_succ, List.set_cons_zero, List.set_cons_succ, Option.some.injEq, exists_eq_left', DEnds.xd, atI_0, atI_1, atI_2, atI_3, atI_4, atI_5, atI_6, atI_7, ixN_50, ixN_51, ixN_52, ixN_53, ixN_54, ixN_30, ixN_31, ixN_32, put_same, put_put, true_and, and_true, ha, hc, put_ne hca]
          refine ⟨⟨by decide, by decide, by decide⟩, ?_⟩
          split
          · exact hN _ _ ⟨hd0.trans (Hand.upd hc hca (by omega)), _, rfl⟩
          · exact ⟨mulok_r (by decide) (by decide), by decide, by decide, hN _ _ ⟨hd0.trans (Hand.upd hc hca (by omega)), _, rfl⟩⟩
      · rw [if_neg (by rw [decide_eq_false h2]; decide)]
        exact hN _ _ ⟨hd0, e0⟩
    · rw [if_neg (by rw [decide_eq_false h1]; decide)]
      exact hN _ _ ⟨hd0, e0⟩
  · obtain ⟨hd, y, rfl⟩ := hM
    refine cut_seq (fun ρ T => Hd a c S T ∧ ∃ y, ρ = [some (.ref a), some (.int m), y, none, none]) (fun N hN => ?_) (fun ρ T hM => ?_)
    · obtain ⟨i, g, k, n, cells, ha, hc, hca, hi⟩ := id hd.h
      simp only [dSeq, dAsg, dRet, dRetN, dIfS, dNext, dDrop, dRaise, dBreak, dCont, dTest, dOp, dVar, dC, dCB, dCons, dNil, dCall, dAndV, dOrV, dNotV, dAndT, dOrT, dNotT, dIf, dTup, dLst, dSl, oSome, oNone, dNeg, gN, gT, gConsD, gNilD, gSubD, dChain, dPar, dAug, dLc, dFor, dBM, isLst, iSeqD, iR1, iR2, iR3, dYes, rdAdd, rdSub, rdMul, rdDiv, rdMod, rdPow, rdIAdd, rdCmp, rdIsN, isNon, rdEqG, rdIx, rdSet, rdSl, rdLen, rdInt1, rdInt, rdInt2, rdAppend, startN, wipeD, List.map_cons, List.map_nil, List.length_cons, List.length_nil, Nat.zero_add, Nat.sub_self, Nat.reduceAdd, Nat.reduceSub, List.replicate_succ, List.replicate_zero, List.cons_append, List.nil_append, List.append_nil, List.getElem?_cons_zero, List.getElem?_cons_succ, List.set_cons_zero, List.set_cons_succ, Option.some.injEq, exists_eq_left', DEnds.xd, atI_0, atI_1, atI_2, atI_3, atI_4, atI_5, atI_6, atI_7, ixN_50, ixN_51, ixN_52, ixN_53, ixN_54, ixN_30, ixN_31, ixN_32, put_same, put_put, true_and, and_true, ha, hc, put_ne hca]
      split
      · exact ⟨hm, divp 8000 hm hm2, h _ _ (hd.trans (Hand.upd hc hca hi)) (Int.emod_nonneg _ (by omega)) (Int.emod_lt_of_pos _ hm)⟩
      · exact hN _ _ ⟨hd, _, rfl⟩
    · obtain ⟨hd, y, rfl⟩ := hM
      refine cut_seq (fun ρ T => Hd a c S T ∧ ∃ i g k n cells, T a = some (.lst [.ref c, .int i, .int g, .int k, .int n]) ∧ T c = some (.lst (List.map Dv.int cells)) ∧ c ≠ a ∧ 0 ≤ i ∧ (0 ≤ k ∧ k < 2147483647) ∧ ∃ y, ρ = [some (.ref a), some (.int m), y, none, none]) (fun N hN => ?_) (fun ρ T hM => ?_)
      · obtain ⟨i, g, k, n, cells, ha, hc, hca, hi⟩ := id hd.h
        simp only [dSeq, dAsg, dRet, dRetN, dIfS, dNext, dDrop, dRaise, dBreak, dCont, dTest, dOp, dVar, dC, dCB, dCons, dNil, dCall, dAndV, dOrV, dNotV, dAndT, dOrT, dNotT, dIf, dTup, dLst, dSl, oSome, oNone, dNeg, gN, gT, gConsD, gNilD, gSubD, dChain, dPar, dAug, dLc, dFor, dBM, isLst, iSeqD, iR1, iR2, iR3, dYes, rdAdd, rdSub, rdMul, rdDiv, rdMod, rdPow, rdIAdd, rdCmp, rdIsN, isNon, rdEqG, rdIx, rdSet, rdSl, rdLen, rdInt1, rdInt, rdInt2, rdAppend, startN, wipeD, List.map_cons, List.map_nil, List.length_cons, List.length_nil, Nat.zero_add, Nat.sub_self, Nat.reduceAdd, Nat.reduceSub, List.replicate_succ, List.replicate_zero, List.cons_append, List.nil_append, List.append_nil, List.getElem?_cons_zero, List.getElem?_cons_succ, List.set_cons_zero, List.set_cons_succ, Option.some.injEq, exists_eq_left', DEnds.xd, atI_0, atI_1, atI_2, atI_3, atI_4, atI_5, atI_6, atI_7, ixN_50, ixN_51, ixN_52, ixN_53, ixN_54, ixN_30, ixN_31, ixN_32, put_same, put_put, true_and, and_true, ha, hc, put_ne hca]
        exact ⟨mulok_r (by decide) (by decide), mulok_l (by decide) (by decide), by decide, hN _ _ ⟨hd.trans (Hand.upd hc hca hi), _, _, _, _, _, put_same, by rw [put_ne hca]; exact hc, hca, hi, ⟨Int.emod_nonneg _ (by decide), Int.emod_lt_of_pos _ (by decide)⟩, _, rfl⟩⟩
      obtain ⟨hd, i, g, k, n, cells, ha, hc, hca, hi, hk, y, rfl⟩ := hM
      simp only [dSeq, dAsg, dRet, dRetN, dIfS, dNext, dDrop, dRaise, dBreak, dCont, dTest, dOp, dVar, dC, dCB, dCons, dNil, dCall, dAndV, dOrV, dNotV, dAndT, dOrT, dNotT, dIf, dTup, dLst, dSl, oSome, oNone, dNeg, gN, gT, gConsD, gNilD, gSubD, dChain, dPar, dAug, dLc, dFor, dBM, isLst, iSeqD, iR1, iR2, iR3, dYes, rdAdd, rdSub, rdMul, rdDiv, rdMod, rdPow, rdIAdd, rdCmp, rdIsN, isNon, rdEqG, rdIx, rdSet, rdSl, rdLen, rdInt1, rdInt, rdInt2, rdAppend, startN, wipeD, List.map_cons, List.map_nil, List.length_cons, List.length_nil, Nat.zero_add, Nat.sub_self, Nat.reduceAdd, Nat.reduceSub, List.replicate_succ, List.replicate_zero, List.cons_append, List.nil_append, List.append_nil, List.getElem?_cons_zero, List.getElem?_cons_succ, List.set_cons_zero, List.set_cons_succ, Option.some.injEq, exists_eq_left', DEnds.xd, atI_0, atI_1, atI_2, atI_3, atI_4, atI_5, atI_6, atI_7, ixN_50, ixN_51, ixN_52, ixN_53, ixN_54, ixN_30, ixN_31, ixN_32, put_same, put_put, true_and, and_true, ha, hc, put_ne hca]
      have b1 : ∀ x : Int, 0 ≤ x % 2147483647 ∧ x % 2147483647 < 2147483647 := fun x => by omega
      exact ⟨divp 64 (by decide) (by decide), mul_small hk.1 hk.2, by decide, divp 64 (by decide) (by decide), mul_small (b1 _).1 (b1 _).2, by decide, divp 64 (by decide) (by decide), hm, h _ _ hd (Int.emod_nonneg _ (by omega)) (Int.emod_lt_of_pos _ hm)⟩
theorem rd__law_pick : Rd r__law_pick 2 sp__law_pick := by
  rintro ds S Q X ⟨a, c, p, xs, rfl, hH, hp, hpa, h0, h1, h⟩
  unfold r__law_pick
  simp only [dSeq, dAsg, dRet, dRetN, dIfS, dNext, dDrop, dRaise, dBreak, dCont, dTest, dOp, dVar, dC, dCB, dCons, dNil, dCall, dAndV, dOrV, dNotV, dAndT, dOrT, dNotT, dIf, dTup, dLst, dSl, oSome, oNone, dNeg, gN, gT, gConsD, gNilD, gSubD, dChain, dPar, dAug, dLc, dFor, dBM, isLst, iSeqD, iR1, iR2, iR3, dYes, rdAdd, rdSub, rdMul, rdDiv, rdMod, rdPow, rdIAdd, rdCmp, rdIsN, isNon, rdEqG, rdIx_tup, rdIx_rol, rdSet, rdSl, rdLen, rdInt1, rdInt, rdInt2, rdAppend, startN, wipeD, List.map_cons, List.map_nil, List.length_cons, List.length_nil, Nat.zero_add, Nat.sub_self, Nat.reduceAdd, Nat.reduceSub, List.replicate_succ, List.replicate_zero, List.cons_append, List.nil_append, List.append_nil, List.getElem?_cons_zero, List.getElem?_cons_succ, List.set_cons_zero, List.set_cons_succ, Option.some.injEq, exists_eq_left', DEnds.xd, atI_0, atI_1, atI_2, atI_3, atI_4, atI_5, atI_6, atI_7, ixN_50, ixN_51, ixN_52, ixN_53, ixN_54, ixN_30, ixN_31, ixN_32, put_same, put_put, true_and, and_true, hp]
  refine ⟨a, c, _, rfl, hH, by omega, ?_, fun r S' hd h2 h3 => ?_⟩
  · show xs.length < 2 ^ 8000
    exact Nat.lt_trans h1 (Nat.lt_of_lt_of_le (by decide : 1000 < 2 ^ 10) (Nat.pow_le_pow_right (by decide) (by decide)))
  · have hr : r.toNat < xs.length := by omega
    exact ix_ref (hd.s p _ hpa hp) (by rw [atI_nn h2, List.getElem?_eq_getElem hr]) (h _ _ (List.getElem_mem hr) hd)
theorem abs10 {m : Int} {n : Nat} (h0 : 0 ≤ m) (h : m < 2 ^ n) (hn : n ≤ 8000 := by decide) : m.natAbs < 2 ^ 8000 := by
  refine Nat.lt_of_lt_of_le (?_ : _ < 2 ^ n) (Nat.pow_le_pow_right (by decide) hn)
  have e : ((2 : Int) ^ n) = ((2 ^ n : Nat) : Int) := by norm_cast
  omega
theorem rd__law_wide : Rd r__law_wide 1 sp__law_wide := by
  rintro ds S Q X ⟨a, c, rfl, hH, h⟩
  unfold r__law_wide
  simp only [dSeq, dAsg, dRet, dRetN, dIfS, dNext, dDrop, dRaise, dBreak, dCont, dTest, dOp, dVar, dC, dCB, dCons, dNil, dCall, dAndV, dOrV, dNotV, dAndT, dOrT, dNotT, dIf, dTup, dLst, dSl, oSome, oNone, dNeg, gN, gT, gConsD, gNilD, gSubD, dChain, dPar, dAug, dLc, dFor, dBM, isLst, iSeqD, iR1, iR2, iR3, dYes, rdAdd, rdSub, rdMul, rdDiv, rdMod, rdPow, rdIAdd, rdCmp, rdIsN, isNon, rdEqG, rdIx, rdSet, rdSl, rdLen, rdInt1, rdInt, rdInt2, rdAppend, startN, wipeD, List.map_cons, List.map_nil, List.length_cons, List.length_nil, Nat.zero_add, Nat.sub_self, Nat.reduceAdd, Nat.reduceSub, List.replicate_succ, List.replicate_zero, List.cons_append, List.nil_append, List.append_nil, List.getElem?_cons_zero, List.getElem?_cons_succ, List.set_cons_zero, List.set_cons_succ, Option.some.injEq, exists_eq_left', DEnds.xd, atI_0, atI_1, atI_2, atI_3, atI_4, atI_5, atI_6, atI_7, ixN_50, ixN_51, ixN_52, ixN_53, ixN_54, ixN_30, ixN_31, ixN_32, put_same, put_put, true_and, and_true]
  refine ⟨a, c, _, rfl, hH, by decide, abs10 (n := 20) (by decide) (by decide), fun r T ht h1 h2 => ?_⟩
  refine ⟨mulok_r (by decide) (by decide), a, c, _, rfl, ht.h, by decide, abs10 (n := 20) (by decide) (by decide), fun r2 T2 ht2 h3 h4 => ?_⟩
  simp only [dSeq, dAsg, dRet, dRetN, dIfS, dNext, dDrop, dRaise, dBreak, dCont, dTest, dOp, dVar, dC, dCB, dCons, dNil, dCall, dAndV, dOrV, dNotV, dAndT, dOrT, dNotT, dIf, dTup, dLst, dSl, oSome, oNone, dNeg, gN, gT, gConsD, gNilD, gSubD, dChain, dPar, dAug, dLc, dFor, dBM, isLst, iSeqD, iR1, iR2, iR3, dYes, rdAdd, rdSub, rdMul, rdDiv, rdMod, rdPow, rdIAdd, rdCmp, rdIsN, isNon, rdEqG, rdIx, rdSet, rdSl, rdLen, rdInt1, rdInt, rdInt2, rdAppend, startN, wipeD, List.map_cons, List.map_nil, List.length_cons, List.length_nil, Nat.zero_add, Nat.sub_self, Nat.reduceAdd, Nat.reduceSub, List.replicate_succ, List.replicate_zero, List.cons_append, List.nil_append, List.append_nil, List.getElem?_cons_zero, List.getElem?_cons_succ, List.set_cons_zero, List.set_cons_succ, Option.some.injEq, exists_eq_left', DEnds.xd, atI_0, atI_1, atI_2, atI_3, atI_4, atI_5, atI_6, atI_7, ixN_50, ixN_51, ixN_52, ixN_53, ixN_54, ixN_30, ixN_31, ixN_32, put_same, put_put, true_and, and_true]
  exact h _ _ (ht.trans ht2) (by omega)
theorem rd__law_great : Rd r__law_great 1 sp__law_great := by
  rintro ds S Q X ⟨a, c, rfl, hH, h⟩
  unfold r__law_great
  simp only [dSeq, dAsg, dRet, dRetN, dIfS, dNext, dDrop, dRaise, dBreak, dCont, dTest, dOp, dVar, dC, dCB, dCons, dNil, dCall, dAndV, dOrV, dNotV, dAndT, dOrT, dNotT, dIf, dTup, dLst, dSl, oSome, oNone, dNeg, gN, gT, gConsD, gNilD, gSubD, dChain, dPar, dAug, dLc, dFor, dBM, isLst, iSeqD, iR1, iR2, iR3, dYes, rdAdd, rdSub, rdMul, rdDiv, rdMod, rdPow, rdIAdd, rdCmp, rdIsN, isNon, rdEqG, rdIx, rdSet, rdSl, rdLen, rdInt1, rdInt, rdInt2, rdAppend, startN, wipeD, List.map_cons, List.map_nil, List.length_cons, List.length_nil, Nat.zero_add, Nat.sub_self, Nat.reduceAdd, Nat.reduceSub, List.replicate_succ, List.replicate_zero, List.cons_append, List.nil_append, List.append_nil, List.getElem?_cons_zero, List.getElem?_cons_succ, List.set_cons_zero, List.set_cons_succ, Option.some.injEq, exists_eq_left', DEnds.xd, atI_0, atI_1, atI_2, atI_3, atI_4, atI_5, atI_6, atI_7, ixN_50, ixN_51, ixN_52, ixN_53, ixN_54, ixN_30, ixN_31, ixN_32, put_same, put_put, true_and, and_true]
  have p5 : CPow 10 5 := ⟨by decide, by decide, by decide⟩
  have e5 : (10 : Int) ^ Int.toNat 5 = 100000 := by decide
  have e10 : (10 : Int) ^ Int.toNat 10 = 10000000000 := by decide
  rw [e5]
  refine ⟨p5, a, c, _, rfl, hH, by decide, abs10 (n := 20) (by decide) (by decide), fun r T ht h1 h2 => ?_⟩
  refine ⟨p5, mulok_r (by decide) (by decide), p5, a, c, _, rfl, ht.h, by decide, abs10 (n := 20) (by decide) (by decide), fun r2 T2 ht2 h3 h4 => ?_⟩
  simp only [dSeq, dAsg, dRet, dRetN, dIfS, dNext, dDrop, dRaise, dBreak, dCont, dTest, dOp, dVar, dC, dCB, dCons, dNil, dCall, dAndV, dOrV, dNotV, dAndT, dOrT, dNotT, dIf, dTup, dLst, dSl, oSome, oNone, dNeg, gN, gT, gConsD, gNilD, gSubD, dChain, dPar, dAug, dLc, dFor, dBM, isLst, iSeqD, iR1, iR2, iR3, dYes, rdAdd, rdSub, rdMul, rdDiv, rdMod, rdPow, rdIAdd, rdCmp, rdIsN, isNon, rdEqG, rdIx, rdSet, rdSl, rdLen, rdInt1, rdInt, rdInt2, rdAppend, startN, wipeD, List.map_cons, List.map_nil, List.length_cons, List.length_nil, Nat.zero_add, Nat.sub_self, Nat.reduceAdd, Nat.reduceSub, List.replicate_succ, List.replicate_zero, List.cons_append, List.nil_append, List.append_nil, List.getElem?_cons_zero, List.getElem?_cons_succ, List.set_cons_zero, List.set_cons_succ, Option.some.injEq, exists_eq_left', DEnds.xd, atI_0, atI_1, atI_2, atI_3, atI_4, atI_5, atI_6, atI_7, ixN_50, ixN_51, ixN_52, ixN_53, ixN_54, ixN_30, ixN_31, ixN_32, put_same, put_put, true_and, and_true]
  rw [e10]
  refine ⟨⟨by decide, by decide, by decide⟩, mulok_r (by decide) (by decide), p5, a, c, _, rfl, ht2.h, by decide, abs10 (n := 20) (by decide) (by decide), fun r3 T3 ht3 h5 h6 => ?_⟩
  refine ⟨p5, mulok_r (by decide) (by decide), p5, a, c, _, rfl, ht3.h, by decide, abs10 (n := 20) (by decide) (by decide), fun r4 T4 ht4 h7 h8 => ?_⟩
  simp only [dSeq, dAsg, dRet, dRetN, dIfS, dNext, dDrop, dRaise, dBreak, dCont, dTest, dOp, dVar, dC, dCB, dCons, dNil, dCall, dAndV, dOrV, dNotV, dAndT, dOrT, dNotT, dIf, dTup, dLst, dSl, oSome, oNone, dNeg, gN, gT, gConsD, gNilD, gSubD, dChain, dPar, dAug, dLc, dFor, dBM, isLst, iSeqD, iR1, iR2, iR3, dYes, rdAdd, rdSub, rdMul, rdDiv, rdMod, rdPow, rdIAdd, rdCmp, rdIsN, isNon, rdEqG, rdIx, rdSet, rdSl, rdLen, rdInt1, rdInt, rdInt2, rdAppend, startN, wipeD, List.map_cons, List.map_nil, List.length_cons, List.length_nil, Nat.zero_add, Nat.sub_self, Nat.reduceAdd, Nat.reduceSub, List.replicate_succ, List.replicate_zero, List.cons_append, List.nil_append, List.append_nil, List.getElem?_cons_zero, List.getElem?_cons_succ, List.set_cons_zero, List.set_cons_succ, Option.some.injEq, exists_eq_left', DEnds.xd, atI_0, atI_1, atI_2, atI_3, atI_4, atI_5, atI_6, atI_7, ixN_50, ixN_51, ixN_52, ixN_53, ixN_54, ixN_30, ixN_31, ixN_32, put_same, put_put, true_and, and_true]
  exact h _ _ (((ht.trans ht2).trans ht3).trans ht4) (by omega)
theorem rd__law_small : Rd r__law_small 2 sp__law_small := by
  rintro ds S Q X ⟨a, c, rfl, hH, h⟩
  unfold r__law_small
  simp only [dSeq, dAsg, dRet, dRetN, dIfS, dNext, dDrop, dRaise, dBreak, dCont, dTest, dOp, dVar, dC, dCB, dCons, dNil, dCall, dAndV, dOrV, dNotV, dAndT, dOrT, dNotT, dIf, dTup, dLst, dSl, oSome, oNone, dNeg, gN, gT, gConsD, gNilD, gSubD, dChain, dPar, dAug, dLc, dFor, dBM, isLst, iSeqD, iR1, iR2, iR3, dYes, rdAdd, rdSub, rdMul, rdDiv, rdMod, rdPow, rdIAdd, rdCmp, rdIsN, isNon, rdEqG, rdIx, rdSet, rdSl, rdLen, rdInt1, rdInt, rdInt2, rdAppend, startN, wipeD, List.map_cons, List.map_nil, List.length_cons, List.length_nil, Nat.zero_add, Nat.sub_self, Nat.reduceAdd, Nat.reduceSub, List.replicate_succ, List.replicate_zero, List.cons_append, List.nil_append, List.append_nil, List.getElem?_cons_zero, List.getElem?_cons_succ, List.set_cons_zero, List.set_cons_succ, Option.some.injEq, exists_eq_left', DEnds.xd, atI_0, atI_1, atI_2, atI_3, atI_4, atI_5, atI_6, atI_7, ixN_50, ixN_51, ixN_52, ixN_53, ixN_54, ixN_30, ixN_31, ixN_32, put_same, put_put, true_and, and_true]
  refine ⟨a, c, _, rfl, hH, by decide, abs10 (n := 20) (by decide) (by decide), fun r T ht h1 h2 => ?_⟩
  simp only [dSeq, dAsg, dRet, dRetN, dIfS, dNext, dDrop, dRaise, dBreak, dCont, dTest, dOp, dVar, dC, dCB, dCons, dNil, dCall, dAndV, dOrV, dNotV, dAndT, dOrT, dNotT, dIf, dTup, dLst, dSl, oSome, oNone, dNeg, gN, gT, gConsD, gNilD, gSubD, dChain, dPar, dAug, dLc, dFor, dBM, isLst, iSeqD, iR1, iR2, iR3, dYes, rdAdd, rdSub, rdMul, rdDiv, rdMod, rdPow, rdIAdd, rdCmp, rdIsN, isNon, rdEqG, rdIx, rdSet, rdSl, rdLen, rdInt1, rdInt, rdInt2, rdAppend, startN, wipeD, List.map_cons, List.map_nil, List.length_cons, List.length_nil, Nat.zero_add, Nat.sub_self, Nat.reduceAdd, Nat.reduceSub, List.replicate_succ, List.replicate_zero, List.cons_append, List.nil_append, List.append_nil, List.getElem?_cons_zero, List.getElem?_cons_succ, List.set_cons_zero, List.set_cons_succ, Option.some.injEq, exists_eq_left', DEnds.xd, atI_0, atI_1, atI_2, atI_3, atI_4, atI_5, atI_6, atI_7, ixN_50, ixN_51, ixN_52, ixN_53, ixN_54, ixN_30, ixN_31, ixN_32, put_same, put_put, true_and, and_true]
  split
  · exact ⟨a, c, rfl, ht.h, fun r2 T2 ht2 hr => h _ _ (ht.trans ht2) hr⟩
  split
  · refine ⟨by decide, fun p hp => ⟨a, c, p, _, rfl, ht.h.new hp, put_same, ht.h.nea hp, by decide, by decide, fun x T2 hx ht2 => ?_⟩⟩
    simp only [List.mem_cons, List.not_mem_nil, or_false] at hx
    rcases hx with rfl | rfl | rfl | rfl | rfl | rfl | rfl | rfl | rfl <;> exact h _ _ ((ht.trans (.new ht.h hp)).trans ht2) (by decide)
  split
  · refine ⟨a, c, _, rfl, ht.h, by decide, abs10 (n := 20) (by decide) (by decide), fun r2 T2 ht2 h3 h4 => ?_⟩
    simp only [dSeq, dAsg, dRet, dRetN, dIfS, dNext, dDrop, dRaise, dBreak, dCont, dTest, dOp, dVar, dC, dCB, dCons, dNil, dCall, dAndV, dOrV, dNotV, dAndT, dOrT, dNotT, dIf, dTup, dLst, dSl, oSome, oNone, dNeg, gN, gT, gConsD, gNilD, gSubD, dChain, dPar, dAug, dLc, dFor, dBM, isLst, iSeqD, iR1, iR2, iR3, dYes, rdAdd, rdSub, rdMul, rdDiv, rdMod, rdPow, rdIAdd, rdCmp, rdIsN, isNon, rdEqG, rdIx, rdSet, rdSl, rdLen, rdInt1, rdInt, rdInt2, rdAppend, startN, wipeD, List.map_cons, List.map_nil, List.length_cons, List.length_nil, Nat.zero_add, Nat.sub_self, Nat.reduceAdd, Nat.reduceSub, List.replicate_succ, List.replicate_zero, List.cons_append, List.nil_append, List.append_nil, List.getElem?_cons_zero, List.getElem?_cons_succ, List.set_cons_zero, List.set_cons_succ, Option.some.injEq, exists_eq_left', DEnds.xd, atI_0, atI_1, atI_2, atI_3, atI_4, atI_5, atI_6, atI_7, ixN_50, ixN_51, ixN_52, ixN_53, ixN_54, ixN_30, ixN_31, ixN_32, put_same, put_put, true_and, and_true]
    exact h _ _ (ht.trans ht2) (by omega)
  · refine ⟨a, c, _, rfl, ht.h, by decide, abs10 (n := 20) (by decide) (by decide), fun r2 T2 ht2 h3 h4 => ?_⟩
    simp only [dSeq, dAsg, dRet, dRetN, dIfS, dNext, dDrop, dRaise, dBreak, dCont, dTest, dOp, dVar, dC, dCB, dCons, dNil, dCall, dAndV, dOrV, dNotV, dAndT, dOrT, dNotT, dIf, dTup, dLst, dSl, oSome, oNone, dNeg, gN, gT, gConsD, gNilD, gSubD, dChain, dPar, dAug, dLc, dFor, dBM, isLst, iSeqD, iR1, iR2, iR3, dYes, rdAdd, rdSub, rdMul, rdDiv, rdMod, rdPow, rdIAdd, rdCmp, rdIsN, isNon, rdEqG, rdIx, rdSet, rdSl, rdLen, rdInt1, rdInt, rdInt2, rdAppend, startN, wipeD, List.map_cons, List.map_nil, List.length_cons, List.length_nil, Nat.zero_add, Nat.sub_self, Nat.reduceAdd, Nat.reduceSub, List.replicate_succ, List.replicate_zero, List.cons_append, List.nil_append, List.append_nil, List.getElem?_cons_zero, List.getElem?_cons_succ, List.set_cons_zero, List.set_cons_succ, Option.some.injEq, exists_eq_left', DEnds.xd, atI_0, atI_1, atI_2, atI_3, atI_4, atI_5, atI_6, atI_7, ixN_50, ixN_51, ixN_52, ixN_53, ixN_54, ixN_30, ixN_31, ixN_32, put_same, put_put, true_and, and_true]
    exact h _ _ (ht.trans ht2) (by omega)
theorem rd__law_seed : Rd r__law_seed 1 sp__law_seed := by
  rintro ds S Q X ⟨a, c, rfl, hH, h⟩
  unfold r__law_seed
  simp only [dSeq, dAsg, dRet, dRetN, dIfS, dNext, dDrop, dRaise, dBreak, dCont, dTest, dOp, dVar, dC, dCB, dCons, dNil, dCall, dAndV, dOrV, dNotV, dAndT, dOrT, dNotT, dIf, dTup, dLst, dSl, oSome, oNone, dNeg, gN, gT, gConsD, gNilD, gSubD, dChain, dPar, dAug, dLc, dFor, dBM, isLst, iSeqD, iR1, iR2, iR3, dYes, rdAdd, rdSub, rdMul, rdDiv, rdMod, rdPow, rdIAdd, rdCmp, rdIsN, isNon, rdEqG, rdIx, rdSet, rdSl, rdLen, rdInt1, rdInt, rdInt2, rdAppend, startN, wipeD, List.map_cons, List.map_nil, List.length_cons, List.length_nil, Nat.zero_add, Nat.sub_self, Nat.reduceAdd, Nat.reduceSub, List.replicate_succ, List.replicate_zero, List.cons_append, List.nil_append, List.append_nil, List.getElem?_cons_zero, List.getElem?_cons_succ, List.set_cons_zero, List.set_cons_succ, Option.some.injEq, exists_eq_left', DEnds.xd, atI_0, atI_1, atI_2, atI_3, atI_4, atI_5, atI_6, atI_7, ixN_50, ixN_51, ixN_52, ixN_53, ixN_54, ixN_30, ixN_31, ixN_32, put_same, put_put, true_and, and_true]
  refine ⟨a, c, _, rfl, hH, by decide, abs10 (n := 20) (by decide) (by decide), fun r T ht h1 h2 => ?_⟩
  simp only [dSeq, dAsg, dRet, dRetN, dIfS, dNext, dDrop, dRaise, dBreak, dCont, dTest, dOp, dVar, dC, dCB, dCons, dNil, dCall, dAndV, dOrV, dNotV, dAndT, dOrT, dNotT, dIf, dTup, dLst, dSl, oSome, oNone, dNeg, gN, gT, gConsD, gNilD, gSubD, dChain, dPar, dAug, dLc, dFor, dBM, isLst, iSeqD, iR1, iR2, iR3, dYes, rdAdd, rdSub, rdMul, rdDiv, rdMod, rdPow, rdIAdd, rdCmp, rdIsN, isNon, rdEqG, rdIx, rdSet, rdSl, rdLen, rdInt1, rdInt, rdInt2, rdAppend, startN, wipeD, List.map_cons, List.map_nil, List.length_cons, List.length_nil, Nat.zero_add, Nat.sub_self, Nat.reduceAdd, Nat.reduceSub, List.replicate_succ, List.replicate_zero, List.cons_append, List.nil_append, List.append_nil, List.getElem?_cons_zero, List.getElem?_cons_succ, List.set_cons_zero, List.set_cons_succ, Option.some.injEq, exists_eq_left', DEnds.xd, atI_0, atI_1, atI_2, atI_3, atI_4, atI_5, atI_6, atI_7, ixN_50, ixN_51, ixN_52, ixN_53, ixN_54, ixN_30, ixN_31, ixN_32, put_same, put_put, true_and, and_true]
  split
  · refine ⟨by decide, fun p hp => ⟨a, c, p, _, rfl, ht.h.new hp, put_same, ht.h.nea hp, by decide, by decide, fun x T2 hx ht2 => ?_⟩⟩
    simp only [List.mem_cons, List.not_mem_nil, or_false] at hx
    rcases hx with rfl | rfl | rfl | rfl | rfl <;> exact h _ _ ((ht.trans (.new ht.h hp)).trans ht2) (by decide)
  · refine ⟨a, c, _, rfl, ht.h, by decide, abs10 (n := 20) (by decide) (by decide), fun r2 T2 ht2 h3 h4 => ?_⟩
    refine ⟨mulok_r (by decide) (by decide), a, c, _, rfl, ht2.h, by decide, abs10 (n := 20) (by decide) (by decide), fun r3 T3 ht3 h5 h6 => ?_⟩
    simp only [dSeq, dAsg, dRet, dRetN, dIfS, dNext, dDrop, dRaise, dBreak, dCont, dTest, dOp, dVar, dC, dCB, dCons, dNil, dCall, dAndV, dOrV, dNotV, dAndT, dOrT, dNotT, dIf, dTup, dLst, dSl, oSome, oNone, dNeg, gN, gT, gConsD, gNilD, gSubD, dChain, dPar, dAug, dLc, dFor, dBM, isLst, iSeqD, iR1, iR2, iR3, dYes, rdAdd, rdSub, rdMul, rdDiv, rdMod, rdPow, rdIAdd, rdCmp, rdIsN, isNon, rdEqG, rdIx, rdSet, rdSl, rdLen, rdInt1, rdInt, rdInt2, rdAppend, startN, wipeD, List.map_cons, List.map_nil, List.length_cons, List.length_nil, Nat.zero_add, Nat.sub_self, Nat.reduceAdd, Nat.reduceSub, List.replicate_succ, List.replicate_zero, List.cons_append, List.nil_append, List.append_nil, List.getElem?_cons_zero, List.getElem?_cons_succ, List.set_cons_zero, List.set_cons_succ, Option.some.injEq, exists_eq_left', DEnds.xd, atI_0, atI_1, atI_2, atI_3, atI_4, atI_5, atI_6, atI_7, ixN_50, ixN_51, ixN_52, ixN_53, ixN_54, ixN_30, ixN_31, ixN_32, put_same, put_put, true_and, and_true]
    exact ⟨by decide, h _ _ ((ht.trans ht2).trans ht3) (by omega)⟩
end Lw

namespace Lw
open PySem PySem.Spec PyProof.Rows L2 VD
theorem pairs_self {xs : List Dv} {i : Nat} {x : Dv} (h : (pairs xs xs)[i]? = some x) : ∃ d ∈ xs, x = .tup [d, d] := by
  obtain ⟨u, v, h1, h2, h3⟩ := pairs_get h
  rw [h1] at h2
  cases h2
  exact ⟨u, List.mem_of_getElem? h1, h3⟩
theorem isi_list {S : Sto} {d : Dv} {Q : QD} {b : Bool} (h : ∃ t, tyN S d = some t ∧ isiB t "list" = b) (q : Q (.bl b) S) : rdIsi [d, .ty "list"] S Q := by
  obtain ⟨t, h1, h2⟩ := h
  exact isi_of ⟨t, h1⟩ (by decide) (fun t' ht => by rw [h1] at ht; cases ht; exact h2) q
theorem rd__law_same (n : Nat) : Rd (r__law_same (sp__law_same n)) 4 (sp__law_same (n + 1)) := by
  rintro ds S Q X ⟨d, rfl, hp, h⟩
  unfold r__law_same
  have hs : (∃ b, d = .int b) ∨ (∃ b, d = .str b) ∨ ∃ xs, d = .tup xs ∧ xs.length ≤ sizeLine ∧ ∀ x ∈ xs, plain n x := by
    cases d with
    | int b => exact .inl ⟨b, rfl⟩
    | str b => exact .inr (.inl ⟨b, rfl⟩)
    | tup xs => exact .inr (.inr ⟨xs, rfl, hp⟩)
    | _ => exact hp.elim
  rcases hs with ⟨b, rfl⟩ | ⟨b, rfl⟩ | ⟨xs, rfl, hl, hx⟩
  · simp only [dSeq, dAsg, dRet, dRetN, dIfS, dNext, dDrop, dRaise, dBreak, dCont, dTest, dOp, dVar, dC, dCB, dCons, dNil, dCall, dAndV, dOrV, dNotV, dAndT, dOrT, dNotT, dIf, dTup, dLst, dSl, oSome, oNone, dNeg, gN, gT, gConsD, gNilD, gSubD, dChain, dPar, dAug, dLc, dFor, dBM, isLst, iSeqD, iR1, iR2, iR3, dYes, rdAdd, rdSub, rdMul, rdDiv, rdMod, rdPow, rdIAdd, rdCmp, rdIsN, isNon, rdEqG, rdIx_tup, rdIx_rol, rdSet, rdSl, rdLen, rdInt1, rdInt, rdInt2, rdAppend, startN, wipeD, List.map_cons, List.map_nil, List.length_cons, List.length_nil, Nat.zero_add, Nat.sub_self, Nat.reduceAdd, Nat.reduceSub, List.replicate_succ, List.replicate_zero, List.cons_append, List.nil_append, List.append_nil, List.getElem?_cons_zero, List.getElem?_cons_succ, List.set_cons_zero, List.set_cons_succ, Option.some.injEq, exists_eq_left', DEnds.xd, atI_0, atI_1, atI_2, atI_3, atI_4, atI_5, atI_6, atI_7, ixN_50, ixN_51, ixN_52, ixN_53, ixN_54, ixN_30, ixN_31, ixN_32, put_same, put_put, true_and, and_true, rdIsB, isBlV, rdStrI, rdIntS, rdMulS, dDict0, dDict1, dTry, wD, decide_true, decide_false, Bool.not_true, Bool.not_false, Bool.false_eq_true, if_true, if_false]
    refine isi_int ⟨_, rfl⟩ ?_
    refine iteT ?_
    refine ⟨_, rfl, ⟨_, rfl⟩, ?_⟩
    exact h
  · simp only [dSeq, dAsg, dRet, dRetN, dIfS, dNext, dDrop, dRaise, dBreak, dCont, dTest, dOp, dVar, dC, dCB, dCons, dNil, dCall, dAndV, dOrV, dNotV, dAndT, dOrT, dNotT, dIf, dTup, dLst, dSl, oSome, oNone, dNeg, gN, gT, gConsD, gNilD, gSubD, dChain, dPar, dAug, dLc, dFor, dBM, isLst, iSeqD, iR1, iR2, iR3, dYes, rdAdd, rdSub, rdMul, rdDiv, rdMod, rdPow, rdIAdd, rdCmp, rdIsN, isNon, rdEqG, rdIx_tup, rdIx_rol, rdSet, rdSl, rdLen, rdInt1, rdInt, rdInt2, rdAppend, startN, wipeD, List.map_cons, List.map_nil, List.length_cons, List.length_nil, Nat.zero_add, Nat.sub_self, Nat.reduceAdd, Nat.reduceSub, List.replicate_succ, List.replicate_zero, List.cons_append, List.nil_append, List.append_nil, List.getElem?_cons_zero, List.getElem?_cons_succ, List.set_cons_zero, List.set_cons_succ, Option.some.injEq, exists_eq_left', DEnds.xd, atI_0, atI_1, atI_2, atI_3, atI_4, atI_5, atI_6, atI_7, ixN_50, ixN_51, ixN_52, ixN_53, ixN_54, ixN_30, ixN_31, ixN_32, put_same, put_put, true_and, and_true, rdIsB, isBlV, rdStrI, rdIntS, rdMulS, dDict0, dDict1, dTry, wD, decide_true, decide_false, Bool.not_true, Bool.not_false, Bool.false_eq_true, if_true, if_false]
    refine isi_int ⟨_, rfl⟩ ?_
    refine iteF ?_
    refine isi_str ⟨_, rfl⟩ ?_
    refine iteT ?_
    refine isi_str ⟨_, rfl⟩ ?_
    exact h
  · simp only [dSeq, dAsg, dRet, dRetN, dIfS, dNext, dDrop, dRaise, dBreak, dCont, dTest, dOp, dVar, dC, dCB, dCons, dNil, dCall, dAndV, dOrV, dNotV, dAndT, dOrT, dNotT, dIf, dTup, dLst, dSl, oSome, oNone, dNeg, gN, gT, gConsD, gNilD, gSubD, dChain, dPar, dAug, dLc, dFor, dBM, isLst, iSeqD, iR1, iR2, iR3, dYes, rdAdd, rdSub, rdMul, rdDiv, rdMod, rdPow, rdIAdd, rdCmp, rdIsN, isNon, rdEqG, rdIx_tup, rdIx_rol, rdSet, rdSl, rdLen, rdInt1, rdInt, rdInt2, rdAppend, startN, wipeD, List.map_cons, List.map_nil, List.length_cons, List.length_nil, Nat.zero_add, Nat.sub_self, Nat.reduceAdd, Nat.reduceSub, List.replicate_succ, List.replicate_zero, List.cons_append, List.nil_append, List.append_nil, List.getElem?_cons_zero, List.getElem?_cons_succ, List.set_cons_zero, List.set_cons_succ, Option.some.injEq, exists_eq_left', DEnds.xd, atI_0, atI_1, atI_2, atI_3, atI_4, atI_5, atI_6, atI_7, ixN_50, ixN_51, ixN_52, ixN_53, ixN_54, ixN_30, ixN_31, ixN_32, put_same, put_put, true_and, and_true, rdIsB, isBlV, rdStrI, rdIntS, rdMulS, dDict0, dDict1, dTry, wD, decide_true, decide_false, Bool.not_true, Bool.not_false, Bool.false_eq_true, if_true, if_false]
    refine isi_int ⟨_, rfl⟩ ?_
    refine iteF ?_
    refine isi_str ⟨_, rfl⟩ ?_
    refine iteF ?_
    refine isi_tuple ⟨_, rfl⟩ ?_
    refine isi_tuple ⟨_, rfl⟩ ?_
    simp only [dSeq, dAsg, dRet, dRetN, dIfS, dNext, dDrop, dRaise, dBreak, dCont, dTest, dOp, dVar, dC, dCB, dCons, dNil, dCall, dAndV, dOrV, dNotV, dAndT, dOrT, dNotT, dIf, dTup, dLst, dSl, oSome, oNone, dNeg, gN, gT, gConsD, gNilD, gSubD, dChain, dPar, dAug, dLc, dFor, dBM, isLst, iSeqD, iR1, iR2, iR3, dYes, rdAdd, rdSub, rdMul, rdDiv, rdMod, rdPow, rdIAdd, rdCmp, rdIsN, isNon, rdEqG, rdIx_tup, rdIx_rol, rdSet, rdSl, rdLen, rdInt1, rdInt, rdInt2, rdAppend, startN, wipeD, List.map_cons, List.map_nil, List.length_cons, List.length_nil, Nat.zero_add, Nat.sub_self, Nat.reduceAdd, Nat.reduceSub, List.replicate_succ, List.replicate_zero, List.cons_append, List.nil_append, List.append_nil, List.getElem?_cons_zero, List.getElem?_cons_succ, List.set_cons_zero, List.set_cons_succ, Option.some.injEq, exists_eq_left', DEnds.xd, atI_0, atI_1, atI_2, atI_3, atI_4, atI_5, atI_6, atI_7, ixN_50, ixN_51, ixN_52, ixN_53, ixN_54, ixN_30, ixN_31, ixN_32, put_same, put_put, true_and, and_true, rdIsB, isBlV, rdStrI, rdIntS, rdMulS, dDict0, dDict1, dTry, wD, decide_true, decide_false, Bool.not_true, Bool.not_false, Bool.false_eq_true, if_true, if_false]
    refine isi_list (b := false) ⟨_, rfl, by decide⟩ ?_
    refine isi_list (b := false) ⟨_, rfl, by decide⟩ ?_
    simp only [dSeq, dAsg, dRet, dRetN, dIfS, dNext, dDrop, dRaise, dBreak, dCont, dTest, dOp, dVar, dC, dCB, dCons, dNil, dCall, dAndV, dOrV, dNotV, dAndT, dOrT, dNotT, dIf, dTup, dLst, dSl, oSome, oNone, dNeg, gN, gT, gConsD, gNilD, gSubD, dChain, dPar, dAug, dLc, dFor, dBM, isLst, iSeqD, iR1, iR2, iR3, dYes, rdAdd, rdSub, rdMul, rdDiv, rdMod, rdPow, rdIAdd, rdCmp, rdIsN, isNon, rdEqG, rdIx_tup, rdIx_rol, rdSet, rdSl, rdLen, rdInt1, rdInt, rdInt2, rdAppend, startN, wipeD, List.map_cons, List.map_nil, List.length_cons, List.length_nil, Nat.zero_add, Nat.sub_self, Nat.reduceAdd, Nat.reduceSub, List.replicate_succ, List.replicate_zero, List.cons_append, List.nil_append, List.append_nil, List.getElem?_cons_zero, List.getElem?_cons_succ, List.set_cons_zero, List.set_cons_succ, Option.some.injEq, exists_eq_left', DEnds.xd, atI_0, atI_1, atI_2, atI_3, atI_4, atI_5, atI_6, atI_7, ixN_50, ixN_51, ixN_52, ixN_53, ixN_54, ixN_30, ixN_31, ixN_32, put_same, put_put, true_and, and_true, rdIsB, isBlV, rdStrI, rdIntS, rdMulS, dDict0, dDict1, dTry, wD, decide_true, decide_false, Bool.not_true, Bool.not_false, Bool.false_eq_true, if_true, if_false]
    unfold iZipD
    simp only [dSeq, dAsg, dRet, dRetN, dIfS, dNext, dDrop, dRaise, dBreak, dCont, dTest, dOp, dVar, dC, dCB, dCons, dNil, dCall, dAndV, dOrV, dNotV, dAndT, dOrT, dNotT, dIf, dTup, dLst, dSl, oSome, oNone, dNeg, gN, gT, gConsD, gNilD, gSubD, dChain, dPar, dAug, dLc, dFor, dBM, isLst, iSeqD, iR1, iR2, iR3, dYes, rdAdd, rdSub, rdMul, rdDiv, rdMod, rdPow, rdIAdd, rdCmp, rdIsN, isNon, rdEqG, rdIx_tup, rdIx_rol, rdSet, rdSl, rdLen, rdInt1, rdInt, rdInt2, rdAppend, startN, wipeD, List.map_cons, List.map_nil, List.length_cons, List.length_nil, Nat.zero_add, Nat.sub_self, Nat.reduceAdd, Nat.reduceSub, List.replicate_succ, List.replicate_zero, List.cons_append, List.nil_append, List.append_nil, List.getElem?_cons_zero, List.getElem?_cons_succ, List.set_cons_zero, List.set_cons_succ, Option.some.injEq, exists_eq_left', DEnds.xd, atI_0, atI_1, atI_2, atI_3, atI_4, atI_5, atI_6, atI_7, ixN_50, ixN_51, ixN_52, ixN_53, ixN_54, ixN_30, ixN_31, ixN_32, put_same, put_put, true_and, and_true, rdIsB, isBlV, rdStrI, rdIntS, rdMulS, dDict0, dDict1, dTry, wD, decide_true, decide_false, Bool.not_true, Bool.not_false, Bool.false_eq_true, if_true, if_false]
    refine for_go (fun i ρ T => T = S ∧ ∃ y z, ρ = [some (.tup xs), some (.tup xs), y, z]) ⟨rfl, _, _, rfl⟩ (fun _ _ _ _ _ => trivial) (fun i x ρ T hx2 hw => ?_) fun ρ T hw => ?_
    · obtain ⟨rfl, y, z, rfl⟩ := hw
      obtain ⟨d, hd, rfl⟩ := pairs_self hx2
      simp only [dSeq, dAsg, dRet, dRetN, dIfS, dNext, dDrop, dRaise, dBreak, dCont, dTest, dOp, dVar, dC, dCB, dCons, dNil, dCall, dAndV, dOrV, dNotV, dAndT, dOrT, dNotT, dIf, dTup, dLst, dSl, oSome, oNone, dNeg, gN, gT, gConsD, gNilD, gSubD, dChain, dPar, dAug, dLc, dFor, dBM, isLst, iSeqD, iR1, iR2, iR3, dYes, rdAdd, rdSub, rdMul, rdDiv, rdMod, rdPow, rdIAdd, rdCmp, rdIsN, isNon, rdEqG, rdIx_tup, rdIx_rol, rdSet, rdSl, rdLen, rdInt1, rdInt, rdInt2, rdAppend, startN, wipeD, List.map_cons, List.map_nil, List.length_cons, List.length_nil, Nat.zero_add, Nat.sub_self, Nat.reduceAdd, Nat.reduceSub, List.replicate_succ, List.replicate_zero, List.cons_append, List.nil_append, List.append_nil, List.getElem?_cons_zero, List.getElem?_cons_succ, List.set_cons_zero, List.set_cons_succ, Option.some.injEq, exists_eq_left', DEnds.xd, atI_0, atI_1, atI_2, atI_3, atI_4, atI_5, atI_6, atI_7, ixN_50, ixN_51, ixN_52, ixN_53, ixN_54, ixN_30, ixN_31, ixN_32, put_same, put_put, true_and, and_true, rdIsB, isBlV, rdStrI, rdIntS, rdMulS, dDict0, dDict1, dTry, wD, decide_true, decide_false, Bool.not_true, Bool.not_false, Bool.false_eq_true, if_true, if_false]
      cases n with
      | zero => exact (hx d hd).elim
      | succ n => exact ⟨d, rfl, hx d hd, iteF ⟨rfl, _, _, rfl⟩⟩
    · obtain ⟨rfl, y, z, rfl⟩ := hw
      simp only [dSeq, dAsg, dRet, dRetN, dIfS, dNext, dDrop, dRaise, dBreak, dCont, dTest, dOp, dVar, dC, dCB, dCons, dNil, dCall, dAndV, dOrV, dNotV, dAndT, dOrT, dNotT, dIf, dTup, dLst, dSl, oSome, oNone, dNeg, gN, gT, gConsD, gNilD, gSubD, dChain, dPar, dAug, dLc, dFor, dBM, isLst, iSeqD, iR1, iR2, iR3, dYes, rdAdd, rdSub, rdMul, rdDiv, rdMod, rdPow, rdIAdd, rdCmp, rdIsN, isNon, rdEqG, rdIx_tup, rdIx_rol, rdSet, rdSl, rdLen, rdInt1, rdInt, rdInt2, rdAppend, startN, wipeD, List.map_cons, List.map_nil, List.length_cons, List.length_nil, Nat.zero_add, Nat.sub_self, Nat.reduceAdd, Nat.reduceSub, List.replicate_succ, List.replicate_zero, List.cons_append, List.nil_append, List.append_nil, List.getElem?_cons_zero, List.getElem?_cons_succ, List.set_cons_zero, List.set_cons_succ, Option.some.injEq, exists_eq_left', DEnds.xd, atI_0, atI_1, atI_2, atI_3, atI_4, atI_5, atI_6, atI_7, ixN_50, ixN_51, ixN_52, ixN_53, ixN_54, ixN_30, ixN_31, ixN_32, put_same, put_put, true_and, and_true, rdIsB, isBlV, rdStrI, rdIntS, rdMulS, dDict0, dDict1, dTry, wD, decide_true, decide_false, Bool.not_true, Bool.not_false, Bool.false_eq_true, if_true, if_false]
      exact h
theorem Kn.hd {a c : Addr} {S S' : Sto} {d : Dv} (k : Kn a S d) (h : Hd a c S S') : Kn a S' d := by
  obtain ⟨⟨t, k1⟩, k2, k3⟩ := k
  refine ⟨⟨t, ?_⟩, k2, k3⟩
  cases d with
  | ref p =>
    have hpa : p ≠ a := fun e => k2 (by rw [e])
    dsimp only [tyN] at k1 ⊢
    cases e : S p with
    | none => rw [e] at k1; cases k1
    | some m =>
      rw [h.s p m hpa e]
      rw [e] at k1
      exact k1
  | _ => exact k1
theorem Kn.int {a : Addr} {S : Sto} {i : Int} (h : -(2 ^ 100) < i ∧ i < 2 ^ 100) : Kn a S (.int i) := ⟨⟨_, rfl⟩, by simp, fun j e => by cases e; exact h⟩
theorem Kn.pl {a : Addr} {S : Sto} {d : Dv} (h : known S d) (h2 : ∀ p, d ≠ .ref p) (h3 : ∀ i, d ≠ .int i) : Kn a S d := ⟨h, h2 a, fun i e => (h3 i e).elim⟩
theorem Kn.lst {a p : Addr} {S : Sto} {m : MO} (e : S p = some m) (ht : ∃ t, tyN S (.ref p) = some t) (hp : p ≠ a) : Kn a S (.ref p) := ⟨ht, by simp; exact hp, fun i e => by cases e⟩
theorem ty_lst {p : Addr} {S : Sto} {xs : List Dv} (e : S p = some (.lst xs)) : ∃ t, tyN S (.ref p) = some t := ⟨"list", by dsimp only [tyN]; rw [e]⟩
theorem ty_dK {p : Addr} {S : Sto} {xs : List (Key × Dv)} (e : S p = some (.dK xs)) : ∃ t, tyN S (.ref p) = some t := ⟨"dict", by dsimp only [tyN]; rw [e]⟩
theorem rd__law_odd : Rd r__law_odd 2 sp__law_odd := by
  rintro ds S Q X ⟨a, c, rfl, hH, h⟩
  unfold r__law_odd
  simp only [dSeq, dAsg, dRet, dRetN, dIfS, dNext, dDrop, dRaise, dBreak, dCont, dTest, dOp, dVar, dC, dCB, dCons, dNil, dCall, dAndV, dOrV, dNotV, dAndT, dOrT, dNotT, dIf, dTup, dLst, dSl, oSome, oNone, dNeg, gN, gT, gConsD, gNilD, gSubD, dChain, dPar, dAug, dLc, dFor, dBM, isLst, iSeqD, iR1, iR2, iR3, dYes, rdAdd, rdSub, rdMul, rdDiv, rdMod, rdPow, rdIAdd, rdCmp, rdIsN, isNon, rdEqG, rdIx_tup, rdIx_rol, rdSet, rdSl, rdLen, rdInt1, rdInt, rdInt2, rdAppend, startN, wipeD, List.map_cons, List.map_nil, List.length_cons, List.length_nil, Nat.zero_add, Nat.sub_self, Nat.reduceAdd, Nat.reduceSub, List.replicate_succ, List.replicate_zero, List.cons_append, List.nil_append, List.append_nil, List.getElem?_cons_zero, List.getElem?_cons_succ, List.set_cons_zero, List.set_cons_succ, Option.some.injEq, exists_eq_left', DEnds.xd, atI_0, atI_1, atI_2, atI_3, atI_4, atI_5, atI_6, atI_7, ixN_50, ixN_51, ixN_52, ixN_53, ixN_54, ixN_30, ixN_31, ixN_32, put_same, put_put, true_and, and_true, rdIsB, isBlV, rdStrI, rdIntS, rdMulS, dDict0, dDict1, dTry, wD, decide_true, decide_false, Bool.not_true, Bool.not_false, Bool.false_eq_true, if_true, if_false]
  refine ⟨a, c, _, rfl, hH, by decide, abs10 (n := 20) (by decide) (by decide), fun r T ht h1 h2 => ?_⟩
  simp only [dSeq, dAsg, dRet, dRetN, dIfS, dNext, dDrop, dRaise, dBreak, dCont, dTest, dOp, dVar, dC, dCB, dCons, dNil, dCall, dAndV, dOrV, dNotV, dAndT, dOrT, dNotT, dIf, dTup, dLst, dSl, oSome, oNone, dNeg, gN, gT, gConsD, gNilD, gSubD, dChain, dPar, dAug, dLc, dFor, dBM, isLst, iSeqD, iR1, iR2, iR3, dYes, rdAdd, rdSub, rdMul, rdDiv, rdMod, rdPow, rdIAdd, rdCmp, rdIsN, isNon, rdEqG, rdIx_tup, rdIx_rol, rdSet, rdSl, rdLen, rdInt1, rdInt, rdInt2, rdAppend, startN, wipeD, List.map_cons, List.map_nil, List.length_cons, List.length_nil, Nat.zero_add, Nat.sub_self, Nat.reduceAdd, Nat.reduceSub, List.replicate_succ, List.replicate_zero, List.cons_append, List.nil_append, List.append_nil, List.getElem?_cons_zero, List.getElem?_cons_succ, List.set_cons_zero, List.set_cons_succ, Option.some.injEq, exists_eq_left', DEnds.xd, atI_0, atI_1, atI_2, atI_3, atI_4, atI_5, atI_6, atI_7, ixN_50, ixN_51, ixN_52, ixN_53, ixN_54, ixN_30, ixN_31, ixN_32, put_same, put_put, true_and, and_true, rdIsB, isBlV, rdStrI, rdIntS, rdMulS, dDict0, dDict1, dTry, wD, decide_true, decide_false, Bool.not_true, Bool.not_false, Bool.false_eq_true, if_true, if_false]
  have hT := ht.h
  split
  · refine ⟨by decide, fun p hp => ?_⟩
    have hd := ht.trans (Hd.new (m := .lst [.non, .bl true, .bl false, .str (Str.ofString ""), .str (Str.ofString "a"), .str (Str.ofString "0")]) hT hp)
    have e : r = 0 ∨ r = 1 ∨ r = 2 ∨ r = 3 ∨ r = 4 ∨ r = 5 := by simp at *; omega
    rcases e with rfl | rfl | rfl | rfl | rfl | rfl <;> exact ix_ref put_same rfl (h _ _ hd (.pl ⟨_, rfl⟩ (by simp) (by simp)))
  split
  · refine ⟨by decide, by decide, fun p hp p1 hp1 => ⟨by decide, by decide, fun p2 hp2 => ⟨by decide, by decide, by decide, fun p3 hp3 => ?_⟩⟩⟩
    have d1 := Hd.new (m := .lst []) hT hp
    have d2 := d1.trans (Hd.new (m := .dK []) d1.h hp1)
    have d3 := d2.trans (Hd.new (m := .lst [.int 0]) d2.h hp2)
    have d4 := d3.trans (Hd.new (m := .lst [.tup [], .ref p, .ref p1, .tup [.int 1], .ref p2, .tup [.tup []]]) d3.h hp3)
    have n01 : p ≠ p1 := ne_of put_same hp1
    have n02 : p ≠ p2 := ne_of (m := .lst []) (by rw [put_ne n01]; exact put_same) hp2
    have n03 : p ≠ p3 := ne_of (m := .lst []) (by rw [put_ne n02, put_ne n01]; exact put_same) hp3
    have n12 : p1 ≠ p2 := ne_of put_same hp2
    have n13 : p1 ≠ p3 := ne_of (m := .dK []) (by rw [put_ne n12]; exact put_same) hp3
    have n23 : p2 ≠ p3 := ne_of put_same hp3
    have hd := ht.trans d4
    have e : r - 6 = 0 ∨ r - 6 = 1 ∨ r - 6 = 2 ∨ r - 6 = 3 ∨ r - 6 = 4 ∨ r - 6 = 5 := by simp at *; omega
    rcases e with e | e | e | e | e | e <;> rw [e]
    · exact ix_ref put_same rfl (h _ _ hd (.pl ⟨_, rfl⟩ (by simp) (by simp)))
    · have g : (put (put (put (put T p (.lst [])) p1 (.dK [])) p2 (.lst [.int 0])) p3 (.lst [.tup [], .ref p, .ref p1, .tup [.int 1], .ref p2, .tup [.tup []]])) p = some (.lst []) := by
        rw [put_ne n03, put_ne n02, put_ne n01, put_same]
      exact ix_ref put_same rfl (h _ _ hd (.lst g (ty_lst g) (hT.nea hp)))
    · have g : (put (put (put (put T p (.lst [])) p1 (.dK [])) p2 (.lst [.int 0])) p3 (.lst [.tup [], .ref p, .ref p1, .tup [.int 1], .ref p2, .tup [.tup []]])) p1 = some (.dK []) := by
        rw [put_ne n13, put_ne n12, put_same]
      exact ix_ref put_same rfl (h _ _ hd (.lst g (ty_dK g) (d1.h.nea hp1)))
    · exact ix_ref put_same rfl (h _ _ hd (.pl ⟨_, rfl⟩ (by simp) (by simp)))
    · have g : (put (put (put (put T p (.lst [])) p1 (.dK [])) p2 (.lst [.int 0])) p3 (.lst [.tup [], .ref p, .ref p1, .tup [.int 1], .ref p2, .tup [.tup []]])) p2 = some (.lst [.int 0]) := by
        rw [put_ne n23, put_same]
      exact ix_ref put_same rfl (h _ _ hd (.lst g (ty_lst g) (d2.h.nea hp2)))
    · exact ix_ref put_same rfl (h _ _ hd (.pl ⟨_, rfl⟩ (by simp) (by simp)))
  split
  · have cp : CPow 10 20 := ⟨by decide, by decide, by decide⟩
    refine ⟨cp, cp, by decide, fun p hp => ?_⟩
    have e : r - 12 = 0 ∨ r - 12 = 1 ∨ r - 12 = 2 ∨ r - 12 = 3 ∨ r - 12 = 4 ∨ r - 12 = 5 := by simp at *; omega
    rcases e with e | e | e | e | e | e <;> rw [e] <;> exact ix_ref put_same rfl (h _ _ (ht.trans (Hd.new hT hp)) (.int (by decide)))
  split
  · refine ⟨by decide, by decide, by decide, fun p hp => ?_⟩
    exact h _ _ (ht.trans (Hd.new hT hp)) (.lst put_same (ty_lst put_same) (hT.nea hp))
  · refine fun p hp => ⟨by decide, ?_⟩
    exact h _ _ (ht.trans (Hd.new hT hp)) (.lst put_same (ty_dK put_same) (hT.nea hp))
theorem rd__law_some : Rd r__law_some 2 sp__law_some := by
  rintro ds S Q X ⟨a, c, d, rfl, hH, hk, h⟩
  unfold r__law_some
  simp only [dSeq, dAsg, dRet, dRetN, dIfS, dNext, dDrop, dRaise, dBreak, dCont, dTest, dOp, dVar, dC, dCB, dCons, dNil, dCall, dAndV, dOrV, dNotV, dAndT, dOrT, dNotT, dIf, dTup, dLst, dSl, oSome, oNone, dNeg, gN, gT, gConsD, gNilD, gSubD, dChain, dPar, dAug, dLc, dFor, dBM, isLst, iSeqD, iR1, iR2, iR3, dYes, rdAdd, rdSub, rdMul, rdDiv, rdMod, rdPow, rdIAdd, rdCmp, rdIsN, isNon, rdEqG, rdIx_tup, rdIx_rol, rdSet, rdSl, rdLen, rdInt1, rdInt, rdInt2, rdAppend, startN, wipeD, List.map_cons, List.map_nil, List.length_cons, List.length_nil, Nat.zero_add, Nat.sub_self, Nat.reduceAdd, Nat.reduceSub, List.replicate_succ, List.replicate_zero, List.cons_append, List.nil_append, List.append_nil, List.getElem?_cons_zero, List.getElem?_cons_succ, List.set_cons_zero, List.set_cons_succ, Option.some.injEq, exists_eq_left', DEnds.xd, atI_0, atI_1, atI_2, atI_3, atI_4, atI_5, atI_6, atI_7, ixN_50, ixN_51, ixN_52, ixN_53, ixN_54, ixN_30, ixN_31, ixN_32, put_same, put_put, true_and, and_true, rdIsB, isBlV, rdStrI, rdIntS, rdMulS, dDict0, dDict1, dTry, wD, decide_true, decide_false, Bool.not_true, Bool.not_false, Bool.false_eq_true, if_true, if_false]
  refine ⟨a, c, _, rfl, hH, by decide, abs10 (n := 20) (by decide) (by decide), fun r T ht h1 h2 => ?_⟩
  simp only [dSeq, dAsg, dRet, dRetN, dIfS, dNext, dDrop, dRaise, dBreak, dCont, dTest, dOp, dVar, dC, dCB, dCons, dNil, dCall, dAndV, dOrV, dNotV, dAndT, dOrT, dNotT, dIf, dTup, dLst, dSl, oSome, oNone, dNeg, gN, gT, gConsD, gNilD, gSubD, dChain, dPar, dAug, dLc, dFor, dBM, isLst, iSeqD, iR1, iR2, iR3, dYes, rdAdd, rdSub, rdMul, rdDiv, rdMod, rdPow, rdIAdd, rdCmp, rdIsN, isNon, rdEqG, rdIx_tup, rdIx_rol, rdSet, rdSl, rdLen, rdInt1, rdInt, rdInt2, rdAppend, startN, wipeD, List.map_cons, List.map_nil, List.length_cons, List.length_nil, Nat.zero_add, Nat.sub_self, Nat.reduceAdd, Nat.reduceSub, List.replicate_succ, List.replicate_zero, List.cons_append, List.nil_append, List.append_nil, List.getElem?_cons_zero, List.getElem?_cons_succ, List.set_cons_zero, List.set_cons_succ, Option.some.injEq, exists_eq_left', DEnds.xd, atI_0, atI_1, atI_2, atI_3, atI_4, atI_5, atI_6, atI_7, ixN_50, ixN_51, ixN_52, ixN_53, ixN_54, ixN_30, ixN_31, ixN_32, put_same, put_put, true_and, and_true, rdIsB, isBlV, rdStrI, rdIntS, rdMulS, dDict0, dDict1, dTry, wD, decide_true, decide_false, Bool.not_true, Bool.not_false, Bool.false_eq_true, if_true, if_false]
  split
  · refine ⟨a, c, rfl, ht.h, fun d' T2 ht2 hk2 => ?_⟩
    refine ⟨by decide, fun p hp => ⟨a, c, p, _, rfl, ht2.h.new hp, put_same, ht2.h.nea hp, by simp, by simp, fun x T3 hx ht3 => ?_⟩⟩
    have hd := ((ht.trans ht2).trans (.new ht2.h hp)).trans ht3
    simp only [List.mem_cons, List.not_mem_nil, or_false] at hx
    rcases hx with rfl | rfl | rfl | rfl | rfl | rfl | rfl
    · exact h _ _ hd (hk2.hd (Hd.trans (.new ht2.h hp) ht3))
    all_goals exact h _ _ hd (.int (by decide))
  · exact h _ _ ht (hk.hd ht)
theorem known_int {S : Sto} {i : Int} : known S (.int i) := ⟨_, rfl⟩
theorem rd__law_wrapped (c : Addr) : Rd (r__law_wrapped c) 1 (sp__law_wrapped c) := by
  rintro ds S Q X ⟨d, rfl, hk, h⟩
  unfold r__law_wrapped
  simp only [dSeq, dAsg, dRet, dRetN, dIfS, dNext, dDrop, dRaise, dBreak, dCont, dTest, dOp, dVar, dC, dCB, dCons, dNil, dCall, dAndV, dOrV, dNotV, dAndT, dOrT, dNotT, dIf, dTup, dLst, dSl, oSome, oNone, dNeg, gN, gT, gConsD, gNilD, gSubD, dChain, dPar, dAug, dLc, dFor, dBM, isLst, iSeqD, iR1, iR2, iR3, dYes, rdAdd, rdSub, rdMul, rdDiv, rdMod, rdPow, rdIAdd, rdCmp, rdIsN, isNon, rdEqG, rdIx_tup, rdIx_rol, rdSet, rdSl, rdLen, rdInt1, rdInt, rdInt2, rdAppend, startN, wipeD, List.map_cons, List.map_nil, List.length_cons, List.length_nil, Nat.zero_add, Nat.sub_self, Nat.reduceAdd, Nat.reduceSub, List.replicate_succ, List.replicate_zero, List.cons_append, List.nil_append, List.append_nil, List.getElem?_cons_zero, List.getElem?_cons_succ, List.set_cons_zero, List.set_cons_succ, Option.some.injEq, exists_eq_left', DEnds.xd, atI_0, atI_1, atI_2, atI_3, atI_4, atI_5, atI_6, atI_7, ixN_50, ixN_51, ixN_52, ixN_53, ixN_54, ixN_30, ixN_31, ixN_32, put_same, put_put, true_and, and_true, rdIsB, isBlV, rdStrI, rdIntS, rdMulS, dDict0, dDict1, dTry, wD, decide_true, decide_false, Bool.not_true, Bool.not_false, Bool.false_eq_true, if_true, if_false]
  refine ⟨d, rfl, hk, ?_⟩
  cases d with
  | int i => exact ⟨by decide, h⟩
  | _ => exact ⟨true, by simp, fun _ => ⟨by decide, h⟩, fun e => by cases e⟩
theorem rd__law_next (c : Addr) : Rd (r__law_next c) 1 (sp__law_next c) := by
  rintro ds S Q X ⟨d, rfl, hk, h⟩
  unfold r__law_next
  simp only [dSeq, dAsg, dRet, dRetN, dIfS, dNext, dDrop, dRaise, dBreak, dCont, dTest, dOp, dVar, dC, dCB, dCons, dNil, dCall, dAndV, dOrV, dNotV, dAndT, dOrT, dNotT, dIf, dTup, dLst, dSl, oSome, oNone, dNeg, gN, gT, gConsD, gNilD, gSubD, dChain, dPar, dAug, dLc, dFor, dBM, isLst, iSeqD, iR1, iR2, iR3, dYes, rdAdd, rdSub, rdMul, rdDiv, rdMod, rdPow, rdIAdd, rdCmp, rdIsN, isNon, rdEqG, rdIx_tup, rdIx_rol, rdSet, rdSl, rdLen, rdInt1, rdInt, rdInt2, rdAppend, startN, wipeD, List.map_cons, List.map_nil, List.length_cons, List.length_nil, Nat.zero_add, Nat.sub_self, Nat.reduceAdd, Nat.reduceSub, List.replicate_succ, List.replicate_zero, List.cons_append, List.nil_append, List.append_nil, List.getElem?_cons_zero, List.getElem?_cons_succ, List.set_cons_zero, List.set_cons_succ, Option.some.injEq, exists_eq_left', DEnds.xd, atI_0, atI_1, atI_2, atI_3, atI_4, atI_5, atI_6, atI_7, ixN_50, ixN_51, ixN_52, ixN_53, ixN_54, ixN_30, ixN_31, ixN_32, put_same, put_put, true_and, and_true, rdIsB, isBlV, rdStrI, rdIntS, rdMulS, dDict0, dDict1, dTry, wD, decide_true, decide_false, Bool.not_true, Bool.not_false, Bool.false_eq_true, if_true, if_false]
  refine ⟨d, rfl, hk, ?_⟩
  unfold afterF at h
  cases e : seedOf d with
  | none =>
    rw [e] at h
    exact ⟨true, by simp, fun _ => ⟨by decide, h⟩, fun e => by cases e⟩
  | some s =>
    rw [e] at h
    exact ⟨by decide, h⟩
theorem rd__law_after (c c2 : Addr) : Rd (r__law_after c c2) 2 (sp__law_after c c2) := by
  rintro ds S Q X ⟨d, m, rfl, hk, hk2, h⟩
  unfold r__law_after
  simp only [dSeq, dAsg, dRet, dRetN, dIfS, dNext, dDrop, dRaise, dBreak, dCont, dTest, dOp, dVar, dC, dCB, dCons, dNil, dCall, dAndV, dOrV, dNotV, dAndT, dOrT, dNotT, dIf, dTup, dLst, dSl, oSome, oNone, dNeg, gN, gT, gConsD, gNilD, gSubD, dChain, dPar, dAug, dLc, dFor, dBM, isLst, iSeqD, iR1, iR2, iR3, dYes, rdAdd, rdSub, rdMul, rdDiv, rdMod, rdPow, rdIAdd, rdCmp, rdIsN, isNon, rdEqG, rdIx_tup, rdIx_rol, rdSet, rdSl, rdLen, rdInt1, rdInt, rdInt2, rdAppend, startN, wipeD, List.map_cons, List.map_nil, List.length_cons, List.length_nil, Nat.zero_add, Nat.sub_self, Nat.reduceAdd, Nat.reduceSub, List.replicate_succ, List.replicate_zero, List.cons_append, List.nil_append, List.append_nil, List.getElem?_cons_zero, List.getElem?_cons_succ, List.set_cons_zero, List.set_cons_succ, Option.some.injEq, exists_eq_left', DEnds.xd, atI_0, atI_1, atI_2, atI_3, atI_4, atI_5, atI_6, atI_7, ixN_50, ixN_51, ixN_52, ixN_53, ixN_54, ixN_30, ixN_31, ixN_32, put_same, put_put, true_and, and_true, rdIsB, isBlV, rdStrI, rdIntS, rdMulS, dDict0, dDict1, dTry, wD, decide_true, decide_false, Bool.not_true, Bool.not_false, Bool.false_eq_true, if_true, if_false]
  refine ⟨d, m, rfl, hk, hk2, ?_⟩
  unfold afterF at h
  cases e : seedOf d with
  | none =>
    rw [e] at h
    exact ⟨true, by simp, fun _ => ⟨by decide, h⟩, fun e => by cases e⟩
  | some s =>
    rw [e] at h
    cases e2 : natOf m with
    | none =>
      rw [e2] at h
      exact ⟨false, by simp, (fun e => by cases e), fun _ => ⟨true, by simp, (fun _ => ⟨by decide, h⟩), (fun e => by cases e)⟩⟩
    | some n =>
      rw [e2] at h
      exact ⟨by decide, h⟩
theorem rd__law_drawn (c c2 : Addr) : Rd (r__law_drawn c c2) 2 (sp__law_drawn c c2) := by
  rintro ds S Q X ⟨d, m, rfl, hk, hk2, h⟩
  unfold r__law_drawn
  simp only [dSeq, dAsg, dRet, dRetN, dIfS, dNext, dDrop, dRaise, dBreak, dCont, dTest, dOp, dVar, dC, dCB, dCons, dNil, dCall, dAndV, dOrV, dNotV, dAndT, dOrT, dNotT, dIf, dTup, dLst, dSl, oSome, oNone, dNeg, gN, gT, gConsD, gNilD, gSubD, dChain, dPar, dAug, dLc, dFor, dBM, isLst, iSeqD, iR1, iR2, iR3, dYes, rdAdd, rdSub, rdMul, rdDiv, rdMod, rdPow, rdIAdd, rdCmp, rdIsN, isNon, rdEqG, rdIx_tup, rdIx_rol, rdSet, rdSl, rdLen, rdInt1, rdInt, rdInt2, rdAppend, startN, wipeD, List.map_cons, List.map_nil, List.length_cons, List.length_nil, Nat.zero_add, Nat.sub_self, Nat.reduceAdd, Nat.reduceSub, List.replicate_succ, List.replicate_zero, List.cons_append, List.nil_append, List.append_nil, List.getElem?_cons_zero, List.getElem?_cons_succ, List.set_cons_zero, List.set_cons_succ, Option.some.injEq, exists_eq_left', DEnds.xd, atI_0, atI_1, atI_2, atI_3, atI_4, atI_5, atI_6, atI_7, ixN_50, ixN_51, ixN_52, ixN_53, ixN_54, ixN_30, ixN_31, ixN_32, put_same, put_put, true_and, and_true, rdIsB, isBlV, rdStrI, rdIntS, rdMulS, dDict0, dDict1, dTry, wD, decide_true, decide_false, Bool.not_true, Bool.not_false, Bool.false_eq_true, if_true, if_false]
  refine ⟨d, m, rfl, hk, hk2, ?_⟩
  unfold drawnF at h
  cases e : seedOf d with
  | none =>
    rw [e] at h
    exact ⟨true, by simp, fun _ => ⟨by decide, h⟩, fun e => by cases e⟩
  | some s =>
    rw [e] at h
    cases e2 : smlOf m with
    | none =>
      rw [e2] at h
      exact ⟨false, by simp, (fun e => by cases e), fun _ => ⟨true, by simp, (fun _ => ⟨by decide, h⟩), (fun e => by cases e)⟩⟩
    | some n =>
      rw [e2] at h
      exact ⟨by decide, h⟩
theorem rd__law_due_wrapped : Rd r__law_due_wrapped 1 sp__law_due_wrapped := by
  rintro ds S Q X ⟨d, rfl, hk, h⟩
  unfold r__law_due_wrapped
  simp only [dSeq, dAsg, dRet, dRetN, dIfS, dNext, dDrop, dRaise, dBreak, dCont, dTest, dOp, dVar, dC, dCB, dCons, dNil, dCall, dAndV, dOrV, dNotV, dAndT, dOrT, dNotT, dIf, dTup, dLst, dSl, oSome, oNone, dNeg, gN, gT, gConsD, gNilD, gSubD, dChain, dPar, dAug, dLc, dFor, dBM, isLst, iSeqD, iR1, iR2, iR3, dYes, rdAdd, rdSub, rdMul, rdDiv, rdMod, rdPow, rdIAdd, rdCmp, rdIsN, isNon, rdEqG, rdIx_tup, rdIx_rol, rdSet, rdSl, rdLen, rdInt1, rdInt, rdInt2, rdAppend, startN, wipeD, List.map_cons, List.map_nil, List.length_cons, List.length_nil, Nat.zero_add, Nat.sub_self, Nat.reduceAdd, Nat.reduceSub, List.replicate_succ, List.replicate_zero, List.cons_append, List.nil_append, List.append_nil, List.getElem?_cons_zero, List.getElem?_cons_succ, List.set_cons_zero, List.set_cons_succ, Option.some.injEq, exists_eq_left', DEnds.xd, atI_0, atI_1, atI_2, atI_3, atI_4, atI_5, atI_6, atI_7, ixN_50, ixN_51, ixN_52, ixN_53, ixN_54, ixN_30, ixN_31, ixN_32, put_same, put_put, true_and, and_true, rdIsB, isBlV, rdStrI, rdIntS, rdMulS, dDict0, dDict1, dTry, wD, decide_true, decide_false, Bool.not_true, Bool.not_false, Bool.false_eq_true, if_true, if_false]
  refine ⟨d, rfl, hk, ?_⟩
  cases d with
  | int i =>
    refine iteF ?_
    simp only [dSeq, dAsg, dRet, dRetN, dIfS, dNext, dDrop, dRaise, dBreak, dCont, dTest, dOp, dVar, dC, dCB, dCons, dNil, dCall, dAndV, dOrV, dNotV, dAndT, dOrT, dNotT, dIf, dTup, dLst, dSl, oSome, oNone, dNeg, gN, gT, gConsD, gNilD, gSubD, dChain, dPar, dAug, dLc, dFor, dBM, isLst, iSeqD, iR1, iR2, iR3, dYes, rdAdd, rdSub, rdMul, rdDiv, rdMod, rdPow, rdIAdd, rdCmp, rdIsN, isNon, rdEqG, rdIx_tup, rdIx_rol, rdSet, rdSl, rdLen, rdInt1, rdInt, rdInt2, rdAppend, startN, wipeD, List.map_cons, List.map_nil, List.length_cons, List.length_nil, Nat.zero_add, Nat.sub_self, Nat.reduceAdd, Nat.reduceSub, List.replicate_succ, List.replicate_zero, List.cons_append, List.nil_append, List.append_nil, List.getElem?_cons_zero, List.getElem?_cons_succ, List.set_cons_zero, List.set_cons_succ, Option.some.injEq, exists_eq_left', DEnds.xd, atI_0, atI_1, atI_2, atI_3, atI_4, atI_5, atI_6, atI_7, ixN_50, ixN_51, ixN_52, ixN_53, ixN_54, ixN_30, ixN_31, ixN_32, put_same, put_put, true_and, and_true, rdIsB, isBlV, rdStrI, rdIntS, rdMulS, dDict0, dDict1, dTry, wD, decide_true, decide_false, Bool.not_true, Bool.not_false, Bool.false_eq_true, if_true, if_false]
    refine ⟨divp 64 (by decide) (by decide), mulok_l (by decide) (by decide), by decide, ?_⟩
    have e : i - 4294967296 * ((i + 2147483648) / 4294967296) = smallF i := by unfold smallF; omega
    rw [e]
    exact h
  | _ => exact ⟨by decide, h⟩
theorem rd__law_due_drawn : Rd r__law_due_drawn 3 sp__law_due_drawn := by
  rintro ds S Q X ⟨d, m, rfl, hk, hk2, h⟩
  unfold r__law_due_drawn
  simp only [dSeq, dAsg, dRet, dRetN, dIfS, dNext, dDrop, dRaise, dBreak, dCont, dTest, dOp, dVar, dC, dCB, dCons, dNil, dCall, dAndV, dOrV, dNotV, dAndT, dOrT, dNotT, dIf, dTup, dLst, dSl, oSome, oNone, dNeg, gN, gT, gConsD, gNilD, gSubD, dChain, dPar, dAug, dLc, dFor, dBM, isLst, iSeqD, iR1, iR2, iR3, dYes, rdAdd, rdSub, rdMul, rdDiv, rdMod, rdPow, rdIAdd, rdCmp, rdIsN, isNon, rdEqG, rdIx_tup, rdIx_rol, rdSet, rdSl, rdLen, rdInt1, rdInt, rdInt2, rdAppend, startN, wipeD, List.map_cons, List.map_nil, List.length_cons, List.length_nil, Nat.zero_add, Nat.sub_self, Nat.reduceAdd, Nat.reduceSub, List.replicate_succ, List.replicate_zero, List.cons_append, List.nil_append, List.append_nil, List.getElem?_cons_zero, List.getElem?_cons_succ, List.set_cons_zero, List.set_cons_succ, Option.some.injEq, exists_eq_left', DEnds.xd, atI_0, atI_1, atI_2, atI_3, atI_4, atI_5, atI_6, atI_7, ixN_50, ixN_51, ixN_52, ixN_53, ixN_54, ixN_30, ixN_31, ixN_32, put_same, put_put, true_and, and_true, rdIsB, isBlV, rdStrI, rdIntS, rdMulS, dDict0, dDict1, dTry, wD, decide_true, decide_false, Bool.not_true, Bool.not_false, Bool.false_eq_true, if_true, if_false]
  refine ⟨d, _, _, rfl, hk, ?_⟩
  rw [within_seed]
  unfold drawnF at h
  cases e : seedOf d with
  | none => rw [e] at h; exact ⟨by decide, h⟩
  | some s =>
    rw [e] at h
    obtain ⟨rfl, _⟩ := seed_i e
    refine iteF ?_
    refine ⟨m, _, _, rfl, hk2, ?_⟩
    rw [within_sml]
    cases e2 : smlOf m with
    | none => rw [e2] at h; exact ⟨by decide, h⟩
    | some b =>
      rw [e2] at h
      obtain ⟨rfl, _⟩ := sml_i e2
      refine iteF ?_
      simp only [dSeq, dAsg, dRet, dRetN, dIfS, dNext, dDrop, dRaise, dBreak, dCont, dTest, dOp, dVar, dC, dCB, dCons, dNil, dCall, dAndV, dOrV, dNotV, dAndT, dOrT, dNotT, dIf, dTup, dLst, dSl, oSome, oNone, dNeg, gN, gT, gConsD, gNilD, gSubD, dChain, dPar, dAug, dLc, dFor, dBM, isLst, iSeqD, iR1, iR2, iR3, dYes, rdAdd, rdSub, rdMul, rdDiv, rdMod, rdPow, rdIAdd, rdCmp, rdIsN, isNon, rdEqG, rdIx_tup, rdIx_rol, rdSet, rdSl, rdLen, rdInt1, rdInt, rdInt2, rdAppend, startN, wipeD, List.map_cons, List.map_nil, List.length_cons, List.length_nil, Nat.zero_add, Nat.sub_self, Nat.reduceAdd, Nat.reduceSub, List.replicate_succ, List.replicate_zero, List.cons_append, List.nil_append, List.append_nil, List.getElem?_cons_zero, List.getElem?_cons_succ, List.set_cons_zero, List.set_cons_succ, Option.some.injEq, exists_eq_left', DEnds.xd, atI_0, atI_1, atI_2, atI_3, atI_4, atI_5, atI_6, atI_7, ixN_50, ixN_51, ixN_52, ixN_53, ixN_54, ixN_30, ixN_31, ixN_32, put_same, put_put, true_and, and_true, rdIsB, isBlV, rdStrI, rdIntS, rdMulS, dDict0, dDict1, dTry, wD, decide_true, decide_false, Bool.not_true, Bool.not_false, Bool.false_eq_true, if_true, if_false]
      unfold drawF at h
      by_cases h1 : b < 1
      · simp only [if_pos h1] at h
        rw [if_pos (decide_eq_true h1)]
        exact ⟨by decide, by decide, h⟩
      · simp only [if_neg h1] at h
        rw [if_neg (by rw [decide_eq_false h1]; decide)]
        exact ⟨mulok_r (by decide) (by decide), by decide, divp 64 (by decide) (by decide), by omega, by decide, by decide, h⟩
theorem rd__law_due_after : Rd r__law_due_after 2 sp__law_due_after := by
  rintro ds S Q X ⟨d, m, rfl, hk, hk2, hf, h⟩
  unfold r__law_due_after
  simp only [dSeq, dAsg, dRet, dRetN, dIfS, dNext, dDrop, dRaise, dBreak, dCont, dTest, dOp, dVar, dC, dCB, dCons, dNil, dCall, dAndV, dOrV, dNotV, dAndT, dOrT, dNotT, dIf, dTup, dLst, dSl, oSome, oNone, dNeg, gN, gT, gConsD, gNilD, gSubD, dChain, dPar, dAug, dLc, dFor, dBM, isLst, iSeqD, iR1, iR2, iR3, dYes, rdAdd, rdSub, rdMul, rdDiv, rdMod, rdPow, rdIAdd, rdCmp, rdIsN, isNon, rdEqG, rdIx_tup, rdIx_rol, rdSet, rdSl, rdLen, rdInt1, rdInt, rdInt2, rdAppend, startN, wipeD, List.map_cons, List.map_nil, List.length_cons, List.length_nil, Nat.zero_add, Nat.sub_self, Nat.reduceAdd, Nat.reduceSub, List.replicate_succ, List.replicate_zero, List.cons_append, List.nil_append, List.append_nil, List.getElem?_cons_zero, List.getElem?_cons_succ, List.set_cons_zero, List.set_cons_succ, Option.some.injEq, exists_eq_left', DEnds.xd, atI_0, atI_1, atI_2, atI_3, atI_4, atI_5, atI_6, atI_7, ixN_50, ixN_51, ixN_52, ixN_53, ixN_54, ixN_30, ixN_31, ixN_32, put_same, put_put, true_and, and_true, rdIsB, isBlV, rdStrI, rdIntS, rdMulS, dDict0, dDict1, dTry, wD, decide_true, decide_false, Bool.not_true, Bool.not_false, Bool.false_eq_true, if_true, if_false]
  refine ⟨d, _, _, rfl, hk, ?_⟩
  rw [within_seed]
  unfold afterF at h
  cases e : seedOf d with
  | none => rw [e] at h; exact ⟨by decide, h⟩
  | some s =>
    rw [e] at h
    obtain ⟨rfl, _⟩ := seed_i e
    refine iteF ?_
    refine ⟨m, rfl, hk2, ?_⟩
    cases m with
    | int i =>
      refine iteF ?_
      simp only [dSeq, dAsg, dRet, dRetN, dIfS, dNext, dDrop, dRaise, dBreak, dCont, dTest, dOp, dVar, dC, dCB, dCons, dNil, dCall, dAndV, dOrV, dNotV, dAndT, dOrT, dNotT, dIf, dTup, dLst, dSl, oSome, oNone, dNeg, gN, gT, gConsD, gNilD, gSubD, dChain, dPar, dAug, dLc, dFor, dBM, isLst, iSeqD, iR1, iR2, iR3, dYes, rdAdd, rdSub, rdMul, rdDiv, rdMod, rdPow, rdIAdd, rdCmp, rdIsN, isNon, rdEqG, rdIx_tup, rdIx_rol, rdSet, rdSl, rdLen, rdInt1, rdInt, rdInt2, rdAppend, startN, wipeD, List.map_cons, List.map_nil, List.length_cons, List.length_nil, Nat.zero_add, Nat.sub_self, Nat.reduceAdd, Nat.reduceSub, List.replicate_succ, List.replicate_zero, List.cons_append, List.nil_append, List.append_nil, List.getElem?_cons_zero, List.getElem?_cons_succ, List.set_cons_zero, List.set_cons_succ, Option.some.injEq, exists_eq_left', DEnds.xd, atI_0, atI_1, atI_2, atI_3, atI_4, atI_5, atI_6, atI_7, ixN_50, ixN_51, ixN_52, ixN_53, ixN_54, ixN_30, ixN_31, ixN_32, put_same, put_put, true_and, and_true, rdIsB, isBlV, rdStrI, rdIntS, rdMulS, dDict0, dDict1, dTry, wD, decide_true, decide_false, Bool.not_true, Bool.not_false, Bool.false_eq_true, if_true, if_false]
      unfold natOf at h
      dsimp only at h
      by_cases h0 : 0 ≤ i
      · rw [if_pos h0] at h
        rw [if_neg (by rw [decide_eq_false (by omega)]; decide)]
        have hi := (hf i rfl).2
        refine ⟨i.toNat, by rw [Int.toNat_of_nonneg h0], ?_, mulok_l (by omega) (by omega), by decide, by decide, h⟩
        have e2 : (2 : Nat) ^ 101 = 2535301200456458802993406410752 := by decide
        rw [e2]
        have e3 : (2 : Int) ^ 100 = 1267650600228229401496703205376 := by decide
        rw [e3] at hi
        omega
      · rw [if_neg h0] at h
        rw [if_pos (decide_eq_true (by omega))]
        exact ⟨by decide, h⟩
    | _ => exact ⟨by decide, h⟩
theorem seed_stays {s : Int} (h1 : 1 ≤ s) (h2 : s ≤ 2147483646) : 1 ≤ s * 48271 % 2147483647 ∧ s * 48271 % 2147483647 ≤ 2147483646 := by
  have h3 : s * 48271 % 2147483647 ≠ 0 := by
    intro e
    have e2 : s * 48271 * 1899818559 % 2147483647 = s := by
      rw [Int.mul_assoc, Int.mul_emod, show (48271 * 1899818559 : Int) % 2147483647 = 1 by decide, Int.mul_one, Int.emod_emod_of_dvd _ (Int.dvd_refl _)]
      exact Int.emod_eq_of_lt (by omega) (by omega)
    rw [Int.mul_emod, e, Int.zero_mul] at e2
    have : (0 : Int) % 2147483647 = 0 := by decide
    omega
  have := Int.emod_nonneg (s * 48271) (by decide : (2147483647 : Int) ≠ 0)
  have := Int.emod_lt_of_pos (s * 48271) (by decide : (0 : Int) < 2147483647)
  omega
theorem pow_one (s : Int) (n : Nat) : s * powF n % 2147483647 * 48271 % 2147483647 = s * powF (n + 1) % 2147483647 := by
  rw [pow_add, mul3, ← Int.mul_assoc]
  rw [show powF 1 = 48271 from by decide, mul4]
theorem seeds_stay {s : Int} (h1 : 1 ≤ s) (h2 : s ≤ 2147483646) : ∀ n : Nat, 1 ≤ s * powF n % 2147483647 ∧ s * powF n % 2147483647 ≤ 2147483646
  | 0 => by
    rw [show powF 0 = 1 from by decide, Int.mul_one, Int.emod_eq_of_lt (by omega) (by omega)]
    exact ⟨h1, h2⟩
  | n + 1 => by
    rw [← pow_one]
    have := seeds_stay h1 h2 n
    exact seed_stays this.1 this.2
theorem seedOf_int {s : Int} (h1 : 1 ≤ s) (h2 : s ≤ 2147483646) : seedOf (.int s) = some s := if_pos ⟨h1, h2⟩
theorem rd__law_chained (c : Addr) : Rd (r__law_chained c) 4 (sp__law_chained c) := by
  rintro ds S Q X ⟨s, n, rfl, h1, h2, hn, h⟩
  unfold r__law_chained
  unfold dFor
  simp only [dSeq, dAsg, dRet, dRetN, dIfS, dNext, dDrop, dRaise, dBreak, dCont, dTest, dOp, dVar, dC, dCB, dCons, dNil, dCall, dAndV, dOrV, dNotV, dAndT, dOrT, dNotT, dIf, dTup, dLst, dSl, oSome, oNone, dNeg, gN, gT, gConsD, gNilD, gSubD, dChain, dPar, dAug, dLc, dFor, dBM, isLst, iSeqD, iR1, iR2, iR3, dYes, rdAdd, rdSub, rdMul, rdDiv, rdMod, rdPow, rdIAdd, rdCmp, rdIsN, isNon, rdEqG, rdIx_tup, rdIx_rol, rdSet, rdSl, rdLen, rdInt1, rdInt, rdInt2, rdAppend, startN, wipeD, List.map_cons, List.map_nil, List.length_cons, List.length_nil, Nat.zero_add, Nat.sub_self, Nat.reduceAdd, Nat.reduceSub, List.replicate_succ, List.replicate_zero, List.cons_append, List.nil_append, List.append_nil, List.getElem?_cons_zero, List.getElem?_cons_succ, List.set_cons_zero, List.set_cons_succ, Option.some.injEq, exists_eq_left', DEnds.xd, atI_0, atI_1, atI_2, atI_3, atI_4, atI_5, atI_6, atI_7, ixN_50, ixN_51, ixN_52, ixN_53, ixN_54, ixN_30, ixN_31, ixN_32, put_same, put_put, true_and, and_true, rdIsB, isBlV, rdStrI, rdIntS, rdMulS, dDict0, dDict1, dTry, wD, decide_true, decide_false, Bool.not_true, Bool.not_false, Bool.false_eq_true, if_true, if_false]
  refine ⟨by omega, by omega, ?_⟩
  refine for_go (fun i ρ T => T = S ∧ ∃ y, ρ = [some (.int s), some (.int n), some (.int (s * powF i % 2147483647)), y]) ⟨rfl, none, ?_⟩ (fun _ _ _ _ _ => trivial) (fun i x ρ T hx hw => ?_) fun ρ T hw => ?_
  · rw [show powF 0 = 1 from by decide, Int.mul_one, Int.emod_eq_of_lt (by omega) (by omega)]
  · obtain ⟨rfl, y, rfl⟩ := hw
    simp only [dSeq, dAsg, dRet, dRetN, dIfS, dNext, dDrop, dRaise, dBreak, dCont, dTest, dOp, dVar, dC, dCB, dCons, dNil, dCall, dAndV, dOrV, dNotV, dAndT, dOrT, dNotT, dIf, dTup, dLst, dSl, oSome, oNone, dNeg, gN, gT, gConsD, gNilD, gSubD, dChain, dPar, dAug, dLc, dFor, dBM, isLst, iSeqD, iR1, iR2, iR3, dYes, rdAdd, rdSub, rdMul, rdDiv, rdMod, rdPow, rdIAdd, rdCmp, rdIsN, isNon, rdEqG, rdIx_tup, rdIx_rol, rdSet, rdSl, rdLen, rdInt1, rdInt, rdInt2, rdAppend, startN, wipeD, List.map_cons, List.map_nil, List.length_cons, List.length_nil, Nat.zero_add, Nat.sub_self, Nat.reduceAdd, Nat.reduceSub, List.replicate_succ, List.replicate_zero, List.cons_append, List.nil_append, List.append_nil, List.getElem?_cons_zero, List.getElem?_cons_succ, List.set_cons_zero, List.set_cons_succ, Option.some.injEq, exists_eq_left', DEnds.xd, atI_0, atI_1, atI_2, atI_3, atI_4, atI_5, atI_6, atI_7, ixN_50, ixN_51, ixN_52, ixN_53, ixN_54, ixN_30, ixN_31, ixN_32, put_same, put_put, true_and, and_true, rdIsB, isBlV, rdStrI, rdIntS, rdMulS, dDict0, dDict1, dTry, wD, decide_true, decide_false, Bool.not_true, Bool.not_false, Bool.false_eq_true, if_true, if_false]
    have hs := seeds_stay h1 h2 i
    refine ⟨_, rfl, known_int, ?_⟩
    rw [seedOf_int hs.1 hs.2]
    exact ⟨rfl, some x, by rw [← pow_one]⟩
  · obtain ⟨rfl, y, rfl⟩ := hw
    rw [rangeL_len]
    simp only [dSeq, dAsg, dRet, dRetN, dIfS, dNext, dDrop, dRaise, dBreak, dCont, dTest, dOp, dVar, dC, dCB, dCons, dNil, dCall, dAndV, dOrV, dNotV, dAndT, dOrT, dNotT, dIf, dTup, dLst, dSl, oSome, oNone, dNeg, gN, gT, gConsD, gNilD, gSubD, dChain, dPar, dAug, dLc, dFor, dBM, isLst, iSeqD, iR1, iR2, iR3, dYes, rdAdd, rdSub, rdMul, rdDiv, rdMod, rdPow, rdIAdd, rdCmp, rdIsN, isNon, rdEqG, rdIx_tup, rdIx_rol, rdSet, rdSl, rdLen, rdInt1, rdInt, rdInt2, rdAppend, startN, wipeD, List.map_cons, List.map_nil, List.length_cons, List.length_nil, Nat.zero_add, Nat.sub_self, Nat.reduceAdd, Nat.reduceSub, List.replicate_succ, List.replicate_zero, List.cons_append, List.nil_append, List.append_nil, List.getElem?_cons_zero, List.getElem?_cons_succ, List.set_cons_zero, List.set_cons_succ, Option.some.injEq, exists_eq_left', DEnds.xd, atI_0, atI_1, atI_2, atI_3, atI_4, atI_5, atI_6, atI_7, ixN_50, ixN_51, ixN_52, ixN_53, ixN_54, ixN_30, ixN_31, ixN_32, put_same, put_put, true_and, and_true, rdIsB, isBlV, rdStrI, rdIntS, rdMulS, dDict0, dDict1, dTry, wD, decide_true, decide_false, Bool.not_true, Bool.not_false, Bool.false_eq_true, if_true, if_false]
    exact h
end Lw

namespace Lw
open PySem PySem.Spec PyProof.Rows L2 VD
theorem one_digit : ∀ c : Nat, 48 ≤ c → c ≤ 57 → PySem.intText? ⟨#[c]⟩ = some ((c - 48 : Nat) : Int) := by
  intro c h1 h2
  have : c = 48 ∨ c = 49 ∨ c = 50 ∨ c = 51 ∨ c = 52 ∨ c = 53 ∨ c = 54 ∨ c = 55 ∨ c = 56 ∨ c = 57 := by omega
  rcases this with rfl | rfl | rfl | rfl | rfl | rfl | rfl | rfl | rfl | rfl <;> decide +kernel
theorem rangeL_mem {lo : Int} {n i : Nat} {x : Dv} (h : (rangeL lo n 1)[i]? = some x) : i < n ∧ x = .int (lo + i) := by
  obtain ⟨h1, h2⟩ := rangeL_get h
  rw [Int.mul_one] at h2
  exact ⟨h1, h2⟩
theorem mulP {i j : Int} (h : 0 ≤ i ∧ i < 2147483647) : IntMulOk i j := mulok_l (by omega) (by omega)
theorem pow_sq (n : Nat) : powF n * powF n % 2147483647 = powF (2 * n) := by rw [← pow_add]; congr 1; omega
theorem rd__law_power : Rd r__law_power 7 sp__law_power := by
  rintro ds S Q X ⟨n, rfl, hn, h⟩
  unfold r__law_power
  unfold dFor iStrD
  simp only [dSeq, dAsg, dRet, dRetN, dIfS, dNext, dDrop, dRaise, dBreak, dCont, dTest, dOp, dVar, dC, dCB, dCons, dNil, dCall, dAndV, dOrV, dNotV, dAndT, dOrT, dNotT, dIf, dTup, dLst, dSl, oSome, oNone, dNeg, gN, gT, gConsD, gNilD, gSubD, dChain, dPar, dAug, dLc, dFor, dBM, isLst, iSeqD, iR1, iR2, iR3, dYes, rdAdd, rdSub, rdMul, rdDiv, rdMod, rdPow, rdIAdd, rdCmp, rdIsN, isNon, rdEqG, rdIx_tup, rdIx_rol, rdSet, rdSl, rdLen, rdInt1, rdInt, rdInt2, rdAppend, startN, wipeD, List.map_cons, List.map_nil, List.length_cons, List.length_nil, Nat.zero_add, Nat.sub_self, Nat.reduceAdd, Nat.reduceSub, List.replicate_succ, List.replicate_zero, List.cons_append, List.nil_append, List.append_nil, List.getElem?_cons_zero, List.getElem?_cons_succ, List.set_cons_zero, List.set_cons_succ, Option.some.injEq, exists_eq_left', DEnds.xd, atI_0, atI_1, atI_2, atI_3, atI_4, atI_5, atI_6, atI_7, ixN_50, ixN_51, ixN_52, ixN_53, ixN_54, ixN_30, ixN_31, ixN_32, put_same, put_put, true_and, and_true, rdIsB, isBlV, rdStrI, rdIntS, rdMulS, dDict0, dDict1, dTry, wD, decide_true, decide_false, Bool.not_true, Bool.not_false, Bool.false_eq_true, if_true, if_false]
  refine ⟨Nat.lt_trans (PySem.Flt.log2_lt_of (by decide : 0 < 101) (by rw [Int.natAbs_natCast]; exact hn)) (by decide), ?_⟩
  have hL : ((Str.ofString (toString (n : Int))).cps.toList) = (Nat.toDigits 10 n).map Char.toNat := PySem.W.KIN.signs_num n
  have hdig : ∀ c ∈ (Nat.toDigits 10 n).map Char.toNat, 48 ≤ c ∧ c ≤ 57 := by
    intro c hc
    obtain ⟨ch, hch, e⟩ := List.mem_map.mp hc
    have r := digit_range (Nat.isDigit_of_mem_toDigits (by decide) (by decide) hch)
    rw [← e]
    exact r
  have hval := PySem.W.KIN.val_back n
  generalize (Nat.toDigits 10 n).map Char.toNat = L at hL hdig hval
  try dsimp only
  show ForGo _ _ _ _ (List.map _ (Str.ofString (toString (n : Int))).cps.toList) _ _
  rw [hL]
  refine for_go (fun i ρ T => T = S ∧ ∃ y1 y2 y3 y4 y5, ρ = [some (.int n), some (.int (powF (PySem.NumText.digitsVal (L.take i)))), y1, y2, y3, y4, y5]) ⟨rfl, none, none, none, none, none, ?_⟩ (fun _ _ _ _ _ => trivial) (fun i x ρ T hx hw => ?_) fun ρ T hw => ?_
  · rw [List.take_zero]
    rfl
  · obtain ⟨rfl, y1, y2, y3, y4, y5, rfl⟩ := hw
    obtain ⟨d, hd, rfl⟩ := map_get hx
    have hd2 := hdig d (List.mem_of_getElem? hd)
    simp only [dSeq, dAsg, dRet, dRetN, dIfS, dNext, dDrop, dRaise, dBreak, dCont, dTest, dOp, dVar, dC, dCB, dCons, dNil, dCall, dAndV, dOrV, dNotV, dAndT, dOrT, dNotT, dIf, dTup, dLst, dSl, oSome, oNone, dNeg, gN, gT, gConsD, gNilD, gSubD, dChain, dPar, dAug, dLc, dFor, dBM, isLst, iSeqD, iR1, iR2, iR3, dYes, rdAdd, rdSub, rdMul, rdDiv, rdMod, rdPow, rdIAdd, rdCmp, rdIsN, isNon, rdEqG, rdIx_tup, rdIx_rol, rdSet, rdSl, rdLen, rdInt1, rdInt, rdInt2, rdAppend, startN, wipeD, List.map_cons, List.map_nil, List.length_cons, List.length_nil, Nat.zero_add, Nat.sub_self, Nat.reduceAdd, Nat.reduceSub, List.replicate_succ, List.replicate_zero, List.cons_append, List.nil_append, List.append_nil, List.getElem?_cons_zero, List.getElem?_cons_succ, List.set_cons_zero, List.set_cons_succ, Option.some.injEq, exists_eq_left', DEnds.xd, atI_0, atI_1, atI_2, atI_3, atI_4, atI_5, atI_6, atI_7, ixN_50, ixN_51, ixN_52, ixN_53, ixN_54, ixN_30, ixN_31, ixN_32, put_same, put_put, true_and, and_true, rdIsB, isBlV, rdStrI, rdIntS, rdMulS, dDict0, dDict1, dTry, wD, decide_true, decide_false, Bool.not_true, Bool.not_false, Bool.false_eq_true, if_true, if_false]
    have p0 := powF_in (PySem.NumText.digitsVal (L.take i))
    refine ⟨mulP p0, by decide, mulP ⟨Int.emod_nonneg _ (by decide), Int.emod_lt_of_pos _ (by decide)⟩, by decide, mulP ⟨Int.emod_nonneg _ (by decide), Int.emod_lt_of_pos _ (by decide)⟩, by decide, mulP ⟨Int.emod_nonneg _ (by decide), Int.emod_lt_of_pos _ (by decide)⟩, by decide, ?_⟩
    refine ⟨_, one_digit d hd2.1 hd2.2, by show 1 ≤ 640; decide, by omega, by omega, ?_⟩
    rw [pow_sq, pow_sq, pow_sq, ← pow_add]
    rw [Int.toNat_natCast, show 2 * (2 * (2 * PySem.NumText.digitsVal (List.take i L))) + 2 * PySem.NumText.digitsVal (List.take i L) = 10 * PySem.NumText.digitsVal (L.take i) + 0 by omega]
    refine for_go (fun j ρ U => U = T ∧ ∃ y1 y2 y3 y4 y5, ρ = [some (.int n), some (.int (powF (10 * PySem.NumText.digitsVal (L.take i) + j))), y1, y2, y3, y4, y5]) ⟨rfl, _, _, _, _, _, rfl⟩ (fun _ _ _ _ _ => trivial) (fun j x ρ U hx hw => ?_) fun ρ U hw => ?_
    · obtain ⟨rfl, y1, y2, y3, y4, y5, rfl⟩ := hw
      simp only [dSeq, dAsg, dRet, dRetN, dIfS, dNext, dDrop, dRaise, dBreak, dCont, dTest, dOp, dVar, dC, dCB, dCons, dNil, dCall, dAndV, dOrV, dNotV, dAndT, dOrT, dNotT, dIf, dTup, dLst, dSl, oSome, oNone, dNeg, gN, gT, gConsD, gNilD, gSubD, dChain, dPar, dAug, dLc, dFor, dBM, isLst, iSeqD, iR1, iR2, iR3, dYes, rdAdd, rdSub, rdMul, rdDiv, rdMod, rdPow, rdIAdd, rdCmp, rdIsN, isNon, rdEqG, rdIx_tup, rdIx_rol, rdSet, rdSl, rdLen, rdInt1, rdInt, rdInt2, rdAppend, startN, wipeD, List.map_cons, List.map_nil, List.length_cons, List.length_nil, Nat.zero_add, Nat.sub_self, Nat.reduceAdd, Nat.reduceSub, List.replicate_succ, List.replicate_zero, List.cons_append, List.nil_append, List.append_nil, List.getElem?_cons_zero, List.getElem?_cons_succ, List.set_cons_zero, List.set_cons_succ, Option.some.injEq, exists_eq_left', DEnds.xd, atI_0, atI_1, atI_2, atI_3, atI_4, atI_5, atI_6, atI_7, ixN_50, ixN_51, ixN_52, ixN_53, ixN_54, ixN_30, ixN_31, ixN_32, put_same, put_put, true_and, and_true, rdIsB, isBlV, rdStrI, rdIntS, rdMulS, dDict0, dDict1, dTry, wD, decide_true, decide_false, Bool.not_true, Bool.not_false, Bool.false_eq_true, if_true, if_false]
      have e := pow_one 1 (10 * PySem.NumText.digitsVal (L.take i) + j)
      rw [Int.one_mul, Int.one_mul, Int.emod_eq_of_lt (powF_in _).1 (powF_in _).2, Int.emod_eq_of_lt (powF_in _).1 (powF_in _).2] at e
      rw [e]
      refine ⟨mulok_r (by decide) (by decide), by decide, ?_⟩
      exact ⟨y1, y2, y3, y4, some x, rfl⟩
    · obtain ⟨rfl, y1, y2, y3, y4, y5, rfl⟩ := hw
      rw [rangeL_len]
      refine ⟨rfl, y1, y2, y3, y4, y5, ?_⟩
      rw [List.take_add_one, hd, Option.toList_some, PySem.NumText.digitsVal_snoc, Nat.mul_comm]
  · obtain ⟨rfl, y1, y2, y3, y4, y5, rfl⟩ := hw
    simp only [dSeq, dAsg, dRet, dRetN, dIfS, dNext, dDrop, dRaise, dBreak, dCont, dTest, dOp, dVar, dC, dCB, dCons, dNil, dCall, dAndV, dOrV, dNotV, dAndT, dOrT, dNotT, dIf, dTup, dLst, dSl, oSome, oNone, dNeg, gN, gT, gConsD, gNilD, gSubD, dChain, dPar, dAug, dLc, dFor, dBM, isLst, iSeqD, iR1, iR2, iR3, dYes, rdAdd, rdSub, rdMul, rdDiv, rdMod, rdPow, rdIAdd, rdCmp, rdIsN, isNon, rdEqG, rdIx_tup, rdIx_rol, rdSet, rdSl, rdLen, rdInt1, rdInt, rdInt2, rdAppend, startN, wipeD, List.map_cons, List.map_nil, List.length_cons, List.length_nil, Nat.zero_add, Nat.sub_self, Nat.reduceAdd, Nat.reduceSub, List.replicate_succ, List.replicate_zero, List.cons_append, List.nil_append, List.append_nil, List.getElem?_cons_zero, List.getElem?_cons_succ, List.set_cons_zero, List.set_cons_succ, Option.some.injEq, exists_eq_left', DEnds.xd, atI_0, atI_1, atI_2, atI_3, atI_4, atI_5, atI_6, atI_7, ixN_50, ixN_51, ixN_52, ixN_53, ixN_54, ixN_30, ixN_31, ixN_32, put_same, put_put, true_and, and_true, rdIsB, isBlV, rdStrI, rdIntS, rdMulS, dDict0, dDict1, dTry, wD, decide_true, decide_false, Bool.not_true, Bool.not_false, Bool.false_eq_true, if_true, if_false]
    rw [List.length_map, List.take_length, hval]
    exact h
end Lw

namespace Lw
open PySem PySem.Spec PyProof.Rows L2 VD
theorem plain_s {n : Nat} {d : Dv} (h : plain (n + 1) d) : plain (n + 2) (kT d) := by
  refine ⟨by rw [sizeLine_eq]; simp, fun x hx => ?_⟩
  simp only [List.mem_cons, List.not_mem_nil, or_false] at hx
  rcases hx with rfl | rfl
  · trivial
  · exact h
theorem plain_nn {n : Nat} : plain (n + 2) kNN := ⟨by decide, fun x hx => by
  simp only [List.mem_cons, List.not_mem_nil, or_false] at hx
  subst hx
  trivial⟩
theorem plain_ns {n : Nat} : plain (n + 2) kNS := ⟨by decide, fun x hx => by
  simp only [List.mem_cons, List.not_mem_nil, or_false] at hx
  subst hx
  trivial⟩
theorem plain_wrap (d : Dv) : plain 4 (wrapF d) := by
  cases d with
  | int i => exact plain_s (n := 2) trivial
  | _ => exact plain_nn
theorem plain_after (d m : Dv) : plain 4 (afterF d m) := by
  unfold afterF
  split
  · exact plain_ns
  split
  · exact plain_nn
  · exact plain_s (n := 2) trivial
theorem plain_drawn (d m : Dv) : plain 4 (drawnF d m) := by
  unfold drawnF
  split
  · exact plain_ns
  split
  · exact plain_nn
  · refine plain_s (n := 2) ?_
    unfold drawF
    split
    all_goals
      refine ⟨by rw [sizeLine_eq]; simp, fun x hx => ?_⟩
      simp only [List.mem_cons, List.not_mem_nil, or_false] at hx
      rcases hx with rfl | rfl <;> trivial
theorem same_q {d : Dv} {S : Sto} {Q : QD} {X : XD} (h : plain 4 d) (q : Q (.bl true) S) : sp__law_same 4 [d, d] S Q X := ⟨d, rfl, h, q⟩
theorem same_i {i j : Int} {S : Sto} {Q : QD} {X : XD} (e : i = j) (q : Q (.bl true) S) : sp__law_same 4 [.int i, .int j] S Q X := ⟨.int i, by rw [e], trivial, q⟩
theorem after_q {c c2 : Addr} {s : Int} {n : Nat} {S : Sto} {Q : QD} {X : XD} (h1 : 1 ≤ s) (h2 : s ≤ 2147483646) (q : Q (.int (s * powF n % 2147483647)) S) : sp_seed_after c c2 [.int s, .int n] S Q X := by
  refine ⟨_, _, rfl, known_int, known_int, ?_⟩
  rw [seedOf_int h1 h2]
  have e : natOf (.int (n : Int)) = some n := by
    unfold natOf
    dsimp only
    rw [if_pos (Int.natCast_nonneg n), Int.toNat_natCast]
  dsimp only
  rw [e]
  exact q
theorem powm2 (s : Int) (m n : Nat) : s * powF m % 2147483647 * powF n % 2147483647 = s * powF (m + n) % 2147483647 := by
  rw [pow_add, mul3, mul4, Int.mul_assoc]
/-- the power by its bits, from the top -/
def pwB : List Bool → Int → Int
  | [], x => x
  | b :: r, x => pwB r (x * x * (if b = true then 48271 else 1) % 2147483647)
def valB : List Bool → Nat → Nat
  | [], v => v
  | b :: r, v => valB r (2 * v + (if b = true then 1 else 0))
theorem pwB_ok : ∀ (bs : List Bool) (v : Nat), pwB bs (powF v) = powF (valB bs v)
  | [], v => rfl
  | b :: r, v => by
    show pwB r (powF v * powF v * (if b = true then 48271 else 1) % 2147483647) = powF (valB r (2 * v + (if b = true then 1 else 0)))
    rw [← pwB_ok r]
    congr 1
    rw [pow_add, ← pow_sq, mul4]
    cases b with
    | true => rw [if_pos rfl, if_pos rfl, show powF 1 = 48271 from by decide]
    | false => rw [if_neg (by decide), if_neg (by decide), show powF 0 = 1 from by decide]
def bits31 : List Bool := [true, true, true, true, true, true, true, true, true, true, true, true, true, true, true, true, true, true, true, true, true, true, true, true, true, true, true, true, true, true, false]
theorem fermat : powF 2147483646 = 1 := by
  have h := pwB_ok bits31 0
  rw [show valB bits31 0 = 2147483646 from by decide +kernel, show powF 0 = 1 from by decide] at h
  rw [← h]
  decide +kernel
theorem div_in {x w : Int} (h : -(2 ^ 100) < x ∧ x < 2 ^ 100) (hw : 1 ≤ w) : -(2 ^ 100) < x / w ∧ x / w < 2 ^ 100 := by
  have e : (2 : Int) ^ 100 = 1267650600228229401496703205376 := by decide
  rw [e] at h ⊢
  have h1 : -1267650600228229401496703205375 ≤ x / w := Int.le_ediv_of_mul_le (by omega) (by omega)
  have h2 : x / w < 1267650600228229401496703205376 := Int.ediv_lt_of_lt_mul (by omega) (by omega)
  omega
theorem pm_in {r r2 : Int} (h : 0 ≤ r ∧ r < 100000000000000000000) (h1 : 0 ≤ r2) (h2 : r2 < 2) : -(2 ^ 100) < r * (1 - 2 * r2) ∧ r * (1 - 2 * r2) < 2 ^ 100 := by
  have e : (2 : Int) ^ 100 = 1267650600228229401496703205376 := by decide
  rw [e]
  have : r2 = 0 ∨ r2 = 1 := by omega
  rcases this with rfl | rfl <;> omega
theorem g_in {r : Int} (h : 0 ≤ r ∧ r < 100000000000000000000) : -(2 ^ 100) < r ∧ r < 2 ^ 100 := by
  have e : (2 : Int) ^ 100 = 1267650600228229401496703205376 := by decide
  rw [e]
  omega
theorem s_in {r : Int} (h : -2147483648 ≤ r ∧ r ≤ 2147483647) : -(2 ^ 100) < r ∧ r < 2 ^ 100 := by
  have e : (2 : Int) ^ 100 = 1267650600228229401496703205376 := by decide
  rw [e]
  omega
theorem rd_law (c c2 : Addr) : Rd (r_law c c2) 11 spLaw := by
  rintro ds S Q X ⟨script, rfl, hl, rfl, h⟩
  unfold r_law
  refine cut_seq (fun ρ T => ∃ a c, Hand T a c ∧ ρ = [some (.rol (List.map Dv.int script)), some (.ref a), none, none, none, none, none, none, none, none, none]) (fun N hN => ?_) (fun ρ T hM => ?_)
  · simp only [dSeq, dAsg, dRet, dRetN, dIfS, dNext, dDrop, dRaise, dBreak, dCont, dTest, dOp, dVar, dC, dCB, dCons, dNil, dCall, dAndV, dOrV, dNotV, dAndT, dOrT, dNotT, dIf, dTup, dLst, dSl, oSome, oNone, dNeg, gN, gT, gConsD, gNilD, gSubD, dChain, dPar, dAug, dLc, dFor, dBM, isLst, iSeqD, iR1, iR2, iR3, dYes, rdAdd, rdSub, rdMul, rdDiv, rdMod, rdPow, rdIAdd, rdCmp, rdIsN, isNon, rdEqG, rdIx_tup, rdIx_rol, rdSet, rdSl, rdLen, rdInt1, rdInt, rdInt2, rdAppend, startN, wipeD, List.map_cons, List.map_nil, List.length_cons, List.length_nil, Nat.zero_add, Nat.sub_self, Nat.reduceAdd, Nat.reduceSub, List.replicate_succ, List.replicate_zero, List.cons_append, List.nil_append, List.append_nil, List.getElem?_cons_zero, List.getElem?_cons_succ, List.set_cons_zero, List.set_cons_succ, Option.some.injEq, exists_eq_left', DEnds.xd, atI_0, atI_1, atI_2, atI_3, atI_4, atI_5, atI_6, atI_7, ixN_50, ixN_51, ixN_52, ixN_53, ixN_54, ixN_30, ixN_31, ixN_32, put_same, put_put, true_and, and_true, rdIsB, isBlV, rdStrI, rdIntS, rdMulS, dDict0, dDict1, dTry, wD, decide_true, decide_false, Bool.not_true, Bool.not_false, Bool.false_eq_true, if_true, if_false]
    exact ⟨script, rfl, fun a c T hH => hN _ _ ⟨a, c, hH, rfl⟩⟩
  obtain ⟨a, cc, hH, rfl⟩ := hM
  refine cut_seq (fun ρ T => Hand T a cc ∧ ∃ y2 y3 y4 y5 y6 y7, ρ = [some (.rol (List.map Dv.int script)), some (.ref a), y2, y3, y4, y5, y6, y7, none, none, none]) (fun N hN => ?_) (fun ρ T hM => ?_)
  · unfold dFor
    simp only [dIfS, dTest, dOp, dVar, dC, dCB, dCons, dNil, dCall, dAndV, dOrV, dNotV, dAndT, dOrT, dNotT, dIf, dTup, dLst, dSl, oSome, oNone, dNeg, gN, gT, gConsD, gNilD, gSubD, dChain, dLc, dBM, isLst, iSeqD, iR1, iR2, iR3, dYes, rdAdd, rdSub, rdMul, rdDiv, rdMod, rdPow, rdIAdd, rdCmp, rdIsN, isNon, rdEqG, rdIx_tup, rdIx_rol, rdSet, rdSl, rdLen, rdInt1, rdInt, rdInt2, rdAppend, startN, wipeD, List.map_cons, List.map_nil, List.length_cons, List.length_nil, Nat.zero_add, Nat.sub_self, Nat.reduceAdd, Nat.reduceSub, List.replicate_succ, List.replicate_zero, List.cons_append, List.nil_append, List.append_nil, List.getElem?_cons_zero, List.getElem?_cons_succ, List.set_cons_zero, List.set_cons_succ, Option.some.injEq, exists_eq_left', DEnds.xd, atI_0, atI_1, atI_2, atI_3, atI_4, atI_5, atI_6, atI_7, ixN_50, ixN_51, ixN_52, ixN_53, ixN_54, ixN_30, ixN_31, ixN_32, put_same, put_put, true_and, and_true, rdIsB, isBlV, rdStrI, rdIntS, rdMulS, dDict0, dDict1, decide_true, decide_false, Bool.not_true, Bool.not_false, Bool.false_eq_true, if_true, if_false]
    refine ⟨by decide, by decide, ?_⟩
    refine for_go (fun i ρ T => Hand T a cc ∧ ∃ y2 y3 y4 y5 y6 y7, ρ = [some (.rol (List.map Dv.int script)), some (.ref a), y2, y3, y4, y5, y6, y7, none, none, none]) ⟨hH, none, none, none, none, none, none, rfl⟩ (fun _ _ _ _ _ => trivial) (fun i x ρ T hx hw => ?_) fun ρ T hw => hN _ _ hw
    clear hH
    obtain ⟨hH, y2, y3, y4, y5, y6, y7, rfl⟩ := hw
    obtain ⟨hi, rfl⟩ := rangeL_mem hx
    simp only [dIfS, dTest, dOp, dVar, dC, dCB, dCons, dNil, dCall, dAndV, dOrV, dNotV, dAndT, dOrT, dNotT, dIf, dTup, dLst, dSl, oSome, oNone, dNeg, gN, gT, gConsD, gNilD, gSubD, dChain, dLc, dBM, isLst, iSeqD, iR1, iR2, iR3, dYes, rdAdd, rdSub, rdMul, rdDiv, rdMod, rdPow, rdIAdd, rdCmp, rdIsN, isNon, rdEqG, rdIx_tup, rdIx_rol, rdSet, rdSl, rdLen, rdInt1, rdInt, rdInt2, rdAppend, startN, wipeD, List.map_cons, List.map_nil, List.length_cons, List.length_nil, Nat.zero_add, Nat.sub_self, Nat.reduceAdd, Nat.reduceSub, List.replicate_succ, List.replicate_zero, List.cons_append, List.nil_append, List.append_nil, List.getElem?_cons_zero, List.getElem?_cons_succ, List.set_cons_zero, List.set_cons_succ, Option.some.injEq, exists_eq_left', DEnds.xd, atI_0, atI_1, atI_2, atI_3, atI_4, atI_5, atI_6, atI_7, ixN_50, ixN_51, ixN_52, ixN_53, ixN_54, ixN_30, ixN_31, ixN_32, put_same, put_put, true_and, and_true, rdIsB, isBlV, rdStrI, rdIntS, rdMulS, dDict0, dDict1, decide_true, decide_false, Bool.not_true, Bool.not_false, Bool.false_eq_true, if_true, if_false]
    have e8 : (10 : Int) ^ Int.toNat 8 = 100000000 := by decide
    have e10 : (10 : Int) ^ Int.toNat 10 = 10000000000 := by decide
    have e18 : (10 : Int) ^ Int.toNat 18 = 1000000000000000000 := by decide
    have c8 : CPow 10 8 := ⟨by decide, by decide, by decide⟩
    have c10 : CPow 10 10 := ⟨by decide, by decide, by decide⟩
    have c18 : CPow 10 18 := ⟨by decide, by decide, by decide⟩
    -- the number
    refine cut_seq (fun ρ T => Hand T a cc ∧ ∃ d y2 y4 y5 y6 y7, Kn a T d ∧ ρ = [some (.rol (List.map Dv.int script)), some (.ref a), y2, some d, y4, y5, y6, y7, none, none, none]) (fun N hN => ?_) (fun ρ T hM => ?_)
    · simp only [dSeq, dAsg, dRet, dRetN, dIfS, dNext, dDrop, dRaise, dBreak, dCont, dTest, dOp, dVar, dC, dCB, dCons, dNil, dCall, dAndV, dOrV, dNotV, dAndT, dOrT, dNotT, dIf, dTup, dLst, dSl, oSome, oNone, dNeg, gN, gT, gConsD, gNilD, gSubD, dChain, dPar, dAug, dLc, dFor, dBM, isLst, iSeqD, iR1, iR2, iR3, dYes, rdAdd, rdSub, rdMul, rdDiv, rdMod, rdPow, rdIAdd, rdCmp, rdIsN, isNon, rdEqG, rdIx_tup, rdIx_rol, rdSet, rdSl, rdLen, rdInt1, rdInt, rdInt2, rdAppend, startN, wipeD, List.map_cons, List.map_nil, List.length_cons, List.length_nil, Nat.zero_add, Nat.sub_self, Nat.reduceAdd, Nat.reduceSub, List.replicate_succ, List.replicate_zero, List.cons_append, List.nil_append, List.append_nil, List.getElem?_cons_zero, List.getElem?_cons_succ, List.set_cons_zero, List.set_cons_succ, Option.some.injEq, exists_eq_left', DEnds.xd, atI_0, atI_1, atI_2, atI_3, atI_4, atI_5, atI_6, atI_7, ixN_50, ixN_51, ixN_52, ixN_53, ixN_54, ixN_30, ixN_31, ixN_32, put_same, put_put, true_and, and_true, rdIsB, isBlV, rdStrI, rdIntS, rdMulS, dDict0, dDict1, dTry, wD, decide_true, decide_false, Bool.not_true, Bool.not_false, Bool.false_eq_true, if_true, if_false]
      rw [e8, e10]
      refine ⟨a, cc, rfl, hH, fun r T1 ht1 hr => ?_⟩
      refine ⟨a, cc, _, rfl, ht1.h, by decide, abs10 (n := 20) (by decide) (by decide), fun r2 T2 ht2 h1 h2 => ?_⟩
      simp only [dSeq, dAsg, dRet, dRetN, dIfS, dNext, dDrop, dRaise, dBreak, dCont, dTest, dOp, dVar, dC, dCB, dCons, dNil, dCall, dAndV, dOrV, dNotV, dAndT, dOrT, dNotT, dIf, dTup, dLst, dSl, oSome, oNone, dNeg, gN, gT, gConsD, gNilD, gSubD, dChain, dPar, dAug, dLc, dFor, dBM, isLst, iSeqD, iR1, iR2, iR3, dYes, rdAdd, rdSub, rdMul, rdDiv, rdMod, rdPow, rdIAdd, rdCmp, rdIsN, isNon, rdEqG, rdIx_tup, rdIx_rol, rdSet, rdSl, rdLen, rdInt1, rdInt, rdInt2, rdAppend, startN, wipeD, List.map_cons, List.map_nil, List.length_cons, List.length_nil, Nat.zero_add, Nat.sub_self, Nat.reduceAdd, Nat.reduceSub, List.replicate_succ, List.replicate_zero, List.cons_append, List.nil_append, List.append_nil, List.getElem?_cons_zero, List.getElem?_cons_succ, List.set_cons_zero, List.set_cons_succ, Option.some.injEq, exists_eq_left', DEnds.xd, atI_0, atI_1, atI_2, atI_3, atI_4, atI_5, atI_6, atI_7, ixN_50, ixN_51, ixN_52, ixN_53, ixN_54, ixN_30, ixN_31, ixN_32, put_same, put_put, true_and, and_true, rdIsB, isBlV, rdStrI, rdIntS, rdMulS, dDict0, dDict1, dTry, wD, decide_true, decide_false, Bool.not_true, Bool.not_false, Bool.false_eq_true, if_true, if_false]
      refine ⟨mulok_l (by decide) (by decide), mulok_r (by omega) (by omega), c8, c10, by decide, fun p hp => ?_⟩
      obtain ⟨w, hw, hw1, hw2⟩ : ∃ w, atI [Dv.int 1, .int 100000000, .int 10000000000] (0 + (i : Int)) = some (.int w) ∧ 1 ≤ w ∧ w < 2 ^ 64 := by
        have : i = 0 ∨ i = 1 ∨ i = 2 := by simp at hi; omega
        rcases this with rfl | rfl | rfl <;> exact ⟨_, rfl, by decide, by decide⟩
      refine ix_ref put_same hw ?_
      simp only [dSeq, dAsg, dRet, dRetN, dIfS, dNext, dDrop, dRaise, dBreak, dCont, dTest, dOp, dVar, dC, dCB, dCons, dNil, dCall, dAndV, dOrV, dNotV, dAndT, dOrT, dNotT, dIf, dTup, dLst, dSl, oSome, oNone, dNeg, gN, gT, gConsD, gNilD, gSubD, dChain, dPar, dAug, dLc, dFor, dBM, isLst, iSeqD, iR1, iR2, iR3, dYes, rdAdd, rdSub, rdMul, rdDiv, rdMod, rdPow, rdIAdd, rdCmp, rdIsN, isNon, rdEqG, rdIx_tup, rdIx_rol, rdSet, rdSl, rdLen, rdInt1, rdInt, rdInt2, rdAppend, startN, wipeD, List.map_cons, List.map_nil, List.length_cons, List.length_nil, Nat.zero_add, Nat.sub_self, Nat.reduceAdd, Nat.reduceSub, List.replicate_succ, List.replicate_zero, List.cons_append, List.nil_append, List.append_nil, List.getElem?_cons_zero, List.getElem?_cons_succ, List.set_cons_zero, List.set_cons_succ, Option.some.injEq, exists_eq_left', DEnds.xd, atI_0, atI_1, atI_2, atI_3, atI_4, atI_5, atI_6, atI_7, ixN_50, ixN_51, ixN_52, ixN_53, ixN_54, ixN_30, ixN_31, ixN_32, put_same, put_put, true_and, and_true, rdIsB, isBlV, rdStrI, rdIntS, rdMulS, dDict0, dDict1, dTry, wD, decide_true, decide_false, Bool.not_true, Bool.not_false, Bool.false_eq_true, if_true, if_false]
      refine ⟨divp 64 (by omega) (by omega), a, cc, _, rfl, ht2.h.new hp, .int ?_, fun d T3 ht3 hk3 => hN _ _ ⟨ht3.h, d, _, _, _, _, _, hk3, rfl⟩⟩
      exact div_in (pm_in hr h1 h2) hw1
    clear hH
    obtain ⟨hH, d, y2, y4, y5, y6, y7, hk, rfl⟩ := hM
    refine cut_seq (fun ρ T => Hand T a cc ∧ ∃ y2 y3 y4 y5 y6 y7, ρ = [some (.rol (List.map Dv.int script)), some (.ref a), y2, y3, y4, y5, y6, y7, none, none, none]) (fun N hN => ?_) (fun ρ T hM => ?_)
    · simp only [dSeq, dAsg, dRet, dRetN, dIfS, dNext, dDrop, dRaise, dBreak, dCont, dTest, dOp, dVar, dC, dCB, dCons, dNil, dCall, dAndV, dOrV, dNotV, dAndT, dOrT, dNotT, dIf, dTup, dLst, dSl, oSome, oNone, dNeg, gN, gT, gConsD, gNilD, gSubD, dChain, dPar, dAug, dLc, dFor, dBM, isLst, iSeqD, iR1, iR2, iR3, dYes, rdAdd, rdSub, rdMul, rdDiv, rdMod, rdPow, rdIAdd, rdCmp, rdIsN, isNon, rdEqG, rdIx_tup, rdIx_rol, rdSet, rdSl, rdLen, rdInt1, rdInt, rdInt2, rdAppend, startN, wipeD, List.map_cons, List.map_nil, List.length_cons, List.length_nil, Nat.zero_add, Nat.sub_self, Nat.reduceAdd, Nat.reduceSub, List.replicate_succ, List.replicate_zero, List.cons_append, List.nil_append, List.append_nil, List.getElem?_cons_zero, List.getElem?_cons_succ, List.set_cons_zero, List.set_cons_succ, Option.some.injEq, exists_eq_left', DEnds.xd, atI_0, atI_1, atI_2, atI_3, atI_4, atI_5, atI_6, atI_7, ixN_50, ixN_51, ixN_52, ixN_53, ixN_54, ixN_30, ixN_31, ixN_32, put_same, put_put, true_and, and_true, rdIsB, isBlV, rdStrI, rdIntS, rdMulS, dDict0, dDict1, dTry, wD, decide_true, decide_false, Bool.not_true, Bool.not_false, Bool.false_eq_true, if_true, if_false]
      refine ⟨d, rfl, hk.1, d, rfl, hk.1, same_q (plain_wrap d) ?_⟩
      exact iteF (hN _ _ ⟨hH, _, _, _, _, _, _, rfl⟩)
    clear hH
    obtain ⟨hH, y2, y3, y4, y5, y6, y7, rfl⟩ := hM
    refine cut_seq (fun ρ T => Hand T a cc ∧ ∃ d y2 y3 y5 y6 y7, Kn a T d ∧ ρ = [some (.rol (List.map Dv.int script)), some (.ref a), y2, y3, some d, y5, y6, y7, none, none, none]) (fun N hN => ?_) (fun ρ T hM => ?_)
    · simp only [dSeq, dAsg, dRet, dRetN, dIfS, dNext, dDrop, dRaise, dBreak, dCont, dTest, dOp, dVar, dC, dCB, dCons, dNil, dCall, dAndV, dOrV, dNotV, dAndT, dOrT, dNotT, dIf, dTup, dLst, dSl, oSome, oNone, dNeg, gN, gT, gConsD, gNilD, gSubD, dChain, dPar, dAug, dLc, dFor, dBM, isLst, iSeqD, iR1, iR2, iR3, dYes, rdAdd, rdSub, rdMul, rdDiv, rdMod, rdPow, rdIAdd, rdCmp, rdIsN, isNon, rdEqG, rdIx_tup, rdIx_rol, rdSet, rdSl, rdLen, rdInt1, rdInt, rdInt2, rdAppend, startN, wipeD, List.map_cons, List.map_nil, List.length_cons, List.length_nil, Nat.zero_add, Nat.sub_self, Nat.reduceAdd, Nat.reduceSub, List.replicate_succ, List.replicate_zero, List.cons_append, List.nil_append, List.append_nil, List.getElem?_cons_zero, List.getElem?_cons_succ, List.set_cons_zero, List.set_cons_succ, Option.some.injEq, exists_eq_left', DEnds.xd, atI_0, atI_1, atI_2, atI_3, atI_4, atI_5, atI_6, atI_7, ixN_50, ixN_51, ixN_52, ixN_53, ixN_54, ixN_30, ixN_31, ixN_32, put_same, put_put, true_and, and_true, rdIsB, isBlV, rdStrI, rdIntS, rdMulS, dDict0, dDict1, dTry, wD, decide_true, decide_false, Bool.not_true, Bool.not_false, Bool.false_eq_true, if_true, if_false]
      refine ⟨a, cc, rfl, hH, fun r T1 ht1 hr => ?_⟩
      exact ⟨a, cc, _, rfl, ht1.h, .int (s_in (by omega)), fun d T3 ht3 hk3 => hN _ _ ⟨ht3.h, d, _, _, _, _, _, hk3, rfl⟩⟩
    clear hH hk
    obtain ⟨hH, s, y2, y3, y5, y6, y7, hk, rfl⟩ := hM
    refine cut_seq (fun ρ T => Hand T a cc ∧ ∃ m y2 y3 y6 y7, Kn a T s ∧ Kn a T m ∧ ρ = [some (.rol (List.map Dv.int script)), some (.ref a), y2, y3, some s, some m, y6, y7, none, none, none]) (fun N hN => ?_) (fun ρ T hM => ?_)
    · simp only [dSeq, dAsg, dRet, dRetN, dIfS, dNext, dDrop, dRaise, dBreak, dCont, dTest, dOp, dVar, dC, dCB, dCons, dNil, dCall, dAndV, dOrV, dNotV, dAndT, dOrT, dNotT, dIf, dTup, dLst, dSl, oSome, oNone, dNeg, gN, gT, gConsD, gNilD, gSubD, dChain, dPar, dAug, dLc, dFor, dBM, isLst, iSeqD, iR1, iR2, iR3, dYes, rdAdd, rdSub, rdMul, rdDiv, rdMod, rdPow, rdIAdd, rdCmp, rdIsN, isNon, rdEqG, rdIx_tup, rdIx_rol, rdSet, rdSl, rdLen, rdInt1, rdInt, rdInt2, rdAppend, startN, wipeD, List.map_cons, List.map_nil, List.length_cons, List.length_nil, Nat.zero_add, Nat.sub_self, Nat.reduceAdd, Nat.reduceSub, List.replicate_succ, List.replicate_zero, List.cons_append, List.nil_append, List.append_nil, List.getElem?_cons_zero, List.getElem?_cons_succ, List.set_cons_zero, List.set_cons_succ, Option.some.injEq, exists_eq_left', DEnds.xd, atI_0, atI_1, atI_2, atI_3, atI_4, atI_5, atI_6, atI_7, ixN_50, ixN_51, ixN_52, ixN_53, ixN_54, ixN_30, ixN_31, ixN_32, put_same, put_put, true_and, and_true, rdIsB, isBlV, rdStrI, rdIntS, rdMulS, dDict0, dDict1, dTry, wD, decide_true, decide_false, Bool.not_true, Bool.not_false, Bool.false_eq_true, if_true, if_false]
      rw [e10, e18]
      refine ⟨a, cc, rfl, hH, fun r T1 ht1 hr => ?_⟩
      refine ⟨c10, c18, by decide, fun p hp => ⟨a, cc, _, rfl, ht1.h.new hp, by decide, abs10 (n := 20) (by decide) (by decide), fun r2 T2 ht2 h1 h2 => ?_⟩⟩
      obtain ⟨w, hw, hw1, hw2⟩ : ∃ w, atI [Dv.int 1, .int 10000000000, .int 1000000000000000000] r2 = some (.int w) ∧ 1 ≤ w ∧ w < 2 ^ 64 := by
        have : r2 = 0 ∨ r2 = 1 ∨ r2 = 2 := by omega
        rcases this with rfl | rfl | rfl <;> exact ⟨_, rfl, by decide, by decide⟩
      refine ix_ref (ht2.s p _ (ht1.h.nea hp) put_same) hw ?_
      simp only [dSeq, dAsg, dRet, dRetN, dIfS, dNext, dDrop, dRaise, dBreak, dCont, dTest, dOp, dVar, dC, dCB, dCons, dNil, dCall, dAndV, dOrV, dNotV, dAndT, dOrT, dNotT, dIf, dTup, dLst, dSl, oSome, oNone, dNeg, gN, gT, gConsD, gNilD, gSubD, dChain, dPar, dAug, dLc, dFor, dBM, isLst, iSeqD, iR1, iR2, iR3, dYes, rdAdd, rdSub, rdMul, rdDiv, rdMod, rdPow, rdIAdd, rdCmp, rdIsN, isNon, rdEqG, rdIx_tup, rdIx_rol, rdSet, rdSl, rdLen, rdInt1, rdInt, rdInt2, rdAppend, startN, wipeD, List.map_cons, List.map_nil, List.length_cons, List.length_nil, Nat.zero_add, Nat.sub_self, Nat.reduceAdd, Nat.reduceSub, List.replicate_succ, List.replicate_zero, List.cons_append, List.nil_append, List.append_nil, List.getElem?_cons_zero, List.getElem?_cons_succ, List.set_cons_zero, List.set_cons_succ, Option.some.injEq, exists_eq_left', DEnds.xd, atI_0, atI_1, atI_2, atI_3, atI_4, atI_5, atI_6, atI_7, ixN_50, ixN_51, ixN_52, ixN_53, ixN_54, ixN_30, ixN_31, ixN_32, put_same, put_put, true_and, and_true, rdIsB, isBlV, rdStrI, rdIntS, rdMulS, dDict0, dDict1, dTry, wD, decide_true, decide_false, Bool.not_true, Bool.not_false, Bool.false_eq_true, if_true, if_false]
      refine ⟨divp 64 (by omega) (by omega), a, cc, _, rfl, ht2.h, .int (div_in (g_in hr) hw1), fun d T3 ht3 hk3 => hN _ _ ⟨ht3.h, d, _, _, _, _, ((hk.hd ht1).hd (Hd.trans (.new ht1.h hp) ht2)).hd ht3, hk3, rfl⟩⟩
    clear hH hk
    obtain ⟨hH, m, y2, y3, y6, y7, hks, hkm, rfl⟩ := hM
    refine cut_seq (fun ρ T => Hand T a cc ∧ ∃ b y2 y3 y7, Kn a T s ∧ Kn a T m ∧ Kn a T b ∧ ρ = [some (.rol (List.map Dv.int script)), some (.ref a), y2, y3, some s, some m, some b, y7, none, none, none]) (fun N hN => ?_) (fun ρ T hM => ?_)
    · simp only [dSeq, dAsg, dRet, dRetN, dIfS, dNext, dDrop, dRaise, dBreak, dCont, dTest, dOp, dVar, dC, dCB, dCons, dNil, dCall, dAndV, dOrV, dNotV, dAndT, dOrT, dNotT, dIf, dTup, dLst, dSl, oSome, oNone, dNeg, gN, gT, gConsD, gNilD, gSubD, dChain, dPar, dAug, dLc, dFor, dBM, isLst, iSeqD, iR1, iR2, iR3, dYes, rdAdd, rdSub, rdMul, rdDiv, rdMod, rdPow, rdIAdd, rdCmp, rdIsN, isNon, rdEqG, rdIx_tup, rdIx_rol, rdSet, rdSl, rdLen, rdInt1, rdInt, rdInt2, rdAppend, startN, wipeD, List.map_cons, List.map_nil, List.length_cons, List.length_nil, Nat.zero_add, Nat.sub_self, Nat.reduceAdd, Nat.reduceSub, List.replicate_succ, List.replicate_zero, List.cons_append, List.nil_append, List.append_nil, List.getElem?_cons_zero, List.getElem?_cons_succ, List.set_cons_zero, List.set_cons_succ, Option.some.injEq, exists_eq_left', DEnds.xd, atI_0, atI_1, atI_2, atI_3, atI_4, atI_5, atI_6, atI_7, ixN_50, ixN_51, ixN_52, ixN_53, ixN_54, ixN_30, ixN_31, ixN_32, put_same, put_put, true_and, and_true, rdIsB, isBlV, rdStrI, rdIntS, rdMulS, dDict0, dDict1, dTry, wD, decide_true, decide_false, Bool.not_true, Bool.not_false, Bool.false_eq_true, if_true, if_false]
      refine ⟨a, cc, rfl, hH, fun r T1 ht1 hr => ?_⟩
      exact ⟨a, cc, _, rfl, ht1.h, .int (s_in hr), fun d T3 ht3 hk3 => hN _ _ ⟨ht3.h, d, _, _, _, (hks.hd ht1).hd ht3, (hkm.hd ht1).hd ht3, hk3, rfl⟩⟩
    clear hH hks hkm
    obtain ⟨hH, b, y2, y3, y7, hks, hkm, hkb, rfl⟩ := hM
    refine cut_seq (fun ρ T => Hand T a cc ∧ Kn a T s ∧ Kn a T m ∧ Kn a T b ∧ ∃ y2 y3, ρ = [some (.rol (List.map Dv.int script)), some (.ref a), y2, y3, some s, some m, some b, some (afterF s (.int 1)), none, none, none]) (fun N hN => ?_) (fun ρ T hM => ?_)
    · simp only [dSeq, dAsg, dRet, dRetN, dIfS, dNext, dDrop, dRaise, dBreak, dCont, dTest, dOp, dVar, dC, dCB, dCons, dNil, dCall, dAndV, dOrV, dNotV, dAndT, dOrT, dNotT, dIf, dTup, dLst, dSl, oSome, oNone, dNeg, gN, gT, gConsD, gNilD, gSubD, dChain, dPar, dAug, dLc, dFor, dBM, isLst, iSeqD, iR1, iR2, iR3, dYes, rdAdd, rdSub, rdMul, rdDiv, rdMod, rdPow, rdIAdd, rdCmp, rdIsN, isNon, rdEqG, rdIx_tup, rdIx_rol, rdSet, rdSl, rdLen, rdInt1, rdInt, rdInt2, rdAppend, startN, wipeD, List.map_cons, List.map_nil, List.length_cons, List.length_nil, Nat.zero_add, Nat.sub_self, Nat.reduceAdd, Nat.reduceSub, List.replicate_succ, List.replicate_zero, List.cons_append, List.nil_append, List.append_nil, List.getElem?_cons_zero, List.getElem?_cons_succ, List.set_cons_zero, List.set_cons_succ, Option.some.injEq, exists_eq_left', DEnds.xd, atI_0, atI_1, atI_2, atI_3, atI_4, atI_5, atI_6, atI_7, ixN_50, ixN_51, ixN_52, ixN_53, ixN_54, ixN_30, ixN_31, ixN_32, put_same, put_put, true_and, and_true, rdIsB, isBlV, rdStrI, rdIntS, rdMulS, dDict0, dDict1, dTry, wD, decide_true, decide_false, Bool.not_true, Bool.not_false, Bool.false_eq_true, if_true, if_false]
      exact ⟨s, .int 1, rfl, hks.1, known_int, fun i e => by cases e; decide, hN _ _ ⟨hH, hks, hkm, hkb, _, _, rfl⟩⟩
    clear hH hks hkm hkb
    obtain ⟨hH, hks, hkm, hkb, y2, y3, rfl⟩ := hM
    refine cut_seq (fun ρ T => Hand T a cc ∧ Kn a T s ∧ Kn a T m ∧ Kn a T b ∧ ∃ y2 y3, ρ = [some (.rol (List.map Dv.int script)), some (.ref a), y2, y3, some s, some m, some b, some (afterF s (.int 1)), none, none, none]) (fun N hN => ?_) (fun ρ T hM => ?_)
    · simp only [dSeq, dAsg, dRet, dRetN, dIfS, dNext, dDrop, dRaise, dBreak, dCont, dTest, dOp, dVar, dC, dCB, dCons, dNil, dCall, dAndV, dOrV, dNotV, dAndT, dOrT, dNotT, dIf, dTup, dLst, dSl, oSome, oNone, dNeg, gN, gT, gConsD, gNilD, gSubD, dChain, dPar, dAug, dLc, dFor, dBM, isLst, iSeqD, iR1, iR2, iR3, dYes, rdAdd, rdSub, rdMul, rdDiv, rdMod, rdPow, rdIAdd, rdCmp, rdIsN, isNon, rdEqG, rdIx_tup, rdIx_rol, rdSet, rdSl, rdLen, rdInt1, rdInt, rdInt2, rdAppend, startN, wipeD, List.map_cons, List.map_nil, List.length_cons, List.length_nil, Nat.zero_add, Nat.sub_self, Nat.reduceAdd, Nat.reduceSub, List.replicate_succ, List.replicate_zero, List.cons_append, List.nil_append, List.append_nil, List.getElem?_cons_zero, List.getElem?_cons_succ, List.set_cons_zero, List.set_cons_succ, Option.some.injEq, exists_eq_left', DEnds.xd, atI_0, atI_1, atI_2, atI_3, atI_4, atI_5, atI_6, atI_7, ixN_50, ixN_51, ixN_52, ixN_53, ixN_54, ixN_30, ixN_31, ixN_32, put_same, put_put, true_and, and_true, rdIsB, isBlV, rdStrI, rdIntS, rdMulS, dDict0, dDict1, dTry, wD, decide_true, decide_false, Bool.not_true, Bool.not_false, Bool.false_eq_true, if_true, if_false]
      refine ⟨s, rfl, hks.1, same_q (plain_after _ _) ?_⟩
      exact iteF (hN _ _ ⟨hH, hks, hkm, hkb, _, _, rfl⟩)
    clear hH hks hkm hkb
    obtain ⟨hH, hks, hkm, hkb, y2, y3, rfl⟩ := hM
    refine cut_seq (fun ρ T => Hand T a cc ∧ Kn a T s ∧ Kn a T m ∧ Kn a T b ∧ ∃ y2 y3, ρ = [some (.rol (List.map Dv.int script)), some (.ref a), y2, y3, some s, some m, some b, some (afterF s (.int 1)), none, none, none]) (fun N hN => ?_) (fun ρ T hM => ?_)
    · simp only [dSeq, dAsg, dRet, dRetN, dIfS, dNext, dDrop, dRaise, dBreak, dCont, dTest, dOp, dVar, dC, dCB, dCons, dNil, dCall, dAndV, dOrV, dNotV, dAndT, dOrT, dNotT, dIf, dTup, dLst, dSl, oSome, oNone, dNeg, gN, gT, gConsD, gNilD, gSubD, dChain, dPar, dAug, dLc, dFor, dBM, isLst, iSeqD, iR1, iR2, iR3, dYes, rdAdd, rdSub, rdMul, rdDiv, rdMod, rdPow, rdIAdd, rdCmp, rdIsN, isNon, rdEqG, rdIx_tup, rdIx_rol, rdSet, rdSl, rdLen, rdInt1, rdInt, rdInt2, rdAppend, startN, wipeD, List.map_cons, List.map_nil, List.length_cons, List.length_nil, Nat.zero_add, Nat.sub_self, Nat.reduceAdd, Nat.reduceSub, List.replicate_succ, List.replicate_zero, List.cons_append, List.nil_append, List.append_nil, List.getElem?_cons_zero, List.getElem?_cons_succ, List.set_cons_zero, List.set_cons_succ, Option.some.injEq, exists_eq_left', DEnds.xd, atI_0, atI_1, atI_2, atI_3, atI_4, atI_5, atI_6, atI_7, ixN_50, ixN_51, ixN_52, ixN_53, ixN_54, ixN_30, ixN_31, ixN_32, put_same, put_put, true_and, and_true, rdIsB, isBlV, rdStrI, rdIntS, rdMulS, dDict0, dDict1, dTry, wD, decide_true, decide_false, Bool.not_true, Bool.not_false, Bool.false_eq_true, if_true, if_false]
      refine ⟨s, m, rfl, hks.1, hkm.1, s, m, rfl, hks.1, hkm.1, hkm.2.2, same_q (plain_after _ _) ?_⟩
      exact iteF (hN _ _ ⟨hH, hks, hkm, hkb, _, _, rfl⟩)
    clear hH hks hkm hkb
    obtain ⟨hH, hks, hkm, hkb, y2, y3, rfl⟩ := hM
    simp only [dSeq, dAsg, dRet, dRetN, dIfS, dNext, dDrop, dRaise, dBreak, dCont, dTest, dOp, dVar, dC, dCB, dCons, dNil, dCall, dAndV, dOrV, dNotV, dAndT, dOrT, dNotT, dIf, dTup, dLst, dSl, oSome, oNone, dNeg, gN, gT, gConsD, gNilD, gSubD, dChain, dPar, dAug, dLc, dFor, dBM, isLst, iSeqD, iR1, iR2, iR3, dYes, rdAdd, rdSub, rdMul, rdDiv, rdMod, rdPow, rdIAdd, rdCmp, rdIsN, isNon, rdEqG, rdIx_tup, rdIx_rol, rdSet, rdSl, rdLen, rdInt1, rdInt, rdInt2, rdAppend, startN, wipeD, List.map_cons, List.map_nil, List.length_cons, List.length_nil, Nat.zero_add, Nat.sub_self, Nat.reduceAdd, Nat.reduceSub, List.replicate_succ, List.replicate_zero, List.cons_append, List.nil_append, List.append_nil, List.getElem?_cons_zero, List.getElem?_cons_succ, List.set_cons_zero, List.set_cons_succ, Option.some.injEq, exists_eq_left', DEnds.xd, atI_0, atI_1, atI_2, atI_3, atI_4, atI_5, atI_6, atI_7, ixN_50, ixN_51, ixN_52, ixN_53, ixN_54, ixN_30, ixN_31, ixN_32, put_same, put_put, true_and, and_true, rdIsB, isBlV, rdStrI, rdIntS, rdMulS, dDict0, dDict1, dTry, wD, decide_true, decide_false, Bool.not_true, Bool.not_false, Bool.false_eq_true, if_true, if_false]
    refine ⟨s, b, rfl, hks.1, hkb.1, s, b, rfl, hks.1, hkb.1, same_q (plain_drawn _ _) ?_⟩
    exact iteF ⟨hH, _, _, _, _, _, _, rfl⟩
  clear hH
  obtain ⟨hH, y2, y3, y4, y5, y6, y7, rfl⟩ := hM
  simp only [dSeq, dAsg, dRet, dRetN, dIfS, dNext, dDrop, dRaise, dBreak, dCont, dTest, dOp, dVar, dC, dCB, dCons, dNil, dCall, dAndV, dOrV, dNotV, dAndT, dOrT, dNotT, dIf, dTup, dLst, dSl, oSome, oNone, dNeg, gN, gT, gConsD, gNilD, gSubD, dChain, dPar, dAug, dLc, dFor, dBM, isLst, iSeqD, iR1, iR2, iR3, dYes, rdAdd, rdSub, rdMul, rdDiv, rdMod, rdPow, rdIAdd, rdCmp, rdIsN, isNon, rdEqG, rdIx_tup, rdIx_rol, rdSet, rdSl, rdLen, rdInt1, rdInt, rdInt2, rdAppend, startN, wipeD, List.map_cons, List.map_nil, List.length_cons, List.length_nil, Nat.zero_add, Nat.sub_self, Nat.reduceAdd, Nat.reduceSub, List.replicate_succ, List.replicate_zero, List.cons_append, List.nil_append, List.append_nil, List.getElem?_cons_zero, List.getElem?_cons_succ, List.set_cons_zero, List.set_cons_succ, Option.some.injEq, exists_eq_left', DEnds.xd, atI_0, atI_1, atI_2, atI_3, atI_4, atI_5, atI_6, atI_7, ixN_50, ixN_51, ixN_52, ixN_53, ixN_54, ixN_30, ixN_31, ixN_32, put_same, put_put, true_and, and_true, rdIsB, isBlV, rdStrI, rdIntS, rdMulS, dDict0, dDict1, dTry, wD, decide_true, decide_false, Bool.not_true, Bool.not_false, Bool.false_eq_true, if_true, if_false]
  refine ⟨a, cc, rfl, hH, fun s T1 ht1 hs => ?_⟩
  simp only [dSeq, dAsg, dRet, dRetN, dIfS, dNext, dDrop, dRaise, dBreak, dCont, dTest, dOp, dVar, dC, dCB, dCons, dNil, dCall, dAndV, dOrV, dNotV, dAndT, dOrT, dNotT, dIf, dTup, dLst, dSl, oSome, oNone, dNeg, gN, gT, gConsD, gNilD, gSubD, dChain, dPar, dAug, dLc, dFor, dBM, isLst, iSeqD, iR1, iR2, iR3, dYes, rdAdd, rdSub, rdMul, rdDiv, rdMod, rdPow, rdIAdd, rdCmp, rdIsN, isNon, rdEqG, rdIx_tup, rdIx_rol, rdSet, rdSl, rdLen, rdInt1, rdInt, rdInt2, rdAppend, startN, wipeD, List.map_cons, List.map_nil, List.length_cons, List.length_nil, Nat.zero_add, Nat.sub_self, Nat.reduceAdd, Nat.reduceSub, List.replicate_succ, List.replicate_zero, List.cons_append, List.nil_append, List.append_nil, List.getElem?_cons_zero, List.getElem?_cons_succ, List.set_cons_zero, List.set_cons_succ, Option.some.injEq, exists_eq_left', DEnds.xd, atI_0, atI_1, atI_2, atI_3, atI_4, atI_5, atI_6, atI_7, ixN_50, ixN_51, ixN_52, ixN_53, ixN_54, ixN_30, ixN_31, ixN_32, put_same, put_put, true_and, and_true, rdIsB, isBlV, rdStrI, rdIntS, rdMulS, dDict0, dDict1, dTry, wD, decide_true, decide_false, Bool.not_true, Bool.not_false, Bool.false_eq_true, if_true, if_false]
  refine ⟨a, cc, rfl, ht1.h, fun r T2 ht2 hr => ?_⟩
  simp only [dSeq, dAsg, dRet, dRetN, dIfS, dNext, dDrop, dRaise, dBreak, dCont, dTest, dOp, dVar, dC, dCB, dCons, dNil, dCall, dAndV, dOrV, dNotV, dAndT, dOrT, dNotT, dIf, dTup, dLst, dSl, oSome, oNone, dNeg, gN, gT, gConsD, gNilD, gSubD, dChain, dPar, dAug, dLc, dFor, dBM, isLst, iSeqD, iR1, iR2, iR3, dYes, rdAdd, rdSub, rdMul, rdDiv, rdMod, rdPow, rdIAdd, rdCmp, rdIsN, isNon, rdEqG, rdIx_tup, rdIx_rol, rdSet, rdSl, rdLen, rdInt1, rdInt, rdInt2, rdAppend, startN, wipeD, List.map_cons, List.map_nil, List.length_cons, List.length_nil, Nat.zero_add, Nat.sub_self, Nat.reduceAdd, Nat.reduceSub, List.replicate_succ, List.replicate_zero, List.cons_append, List.nil_append, List.append_nil, List.getElem?_cons_zero, List.getElem?_cons_succ, List.set_cons_zero, List.set_cons_succ, Option.some.injEq, exists_eq_left', DEnds.xd, atI_0, atI_1, atI_2, atI_3, atI_4, atI_5, atI_6, atI_7, ixN_50, ixN_51, ixN_52, ixN_53, ixN_54, ixN_30, ixN_31, ixN_32, put_same, put_put, true_and, and_true, rdIsB, isBlV, rdStrI, rdIntS, rdMulS, dDict0, dDict1, dTry, wD, decide_true, decide_false, Bool.not_true, Bool.not_false, Bool.false_eq_true, if_true, if_false]
  refine ⟨divp 64 (by decide) (by decide), a, cc, rfl, ht2.h, fun r2 T3 ht3 hr2 => ?_⟩
  simp only [dSeq, dAsg, dRet, dRetN, dIfS, dNext, dDrop, dRaise, dBreak, dCont, dTest, dOp, dVar, dC, dCB, dCons, dNil, dCall, dAndV, dOrV, dNotV, dAndT, dOrT, dNotT, dIf, dTup, dLst, dSl, oSome, oNone, dNeg, gN, gT, gConsD, gNilD, gSubD, dChain, dPar, dAug, dLc, dFor, dBM, isLst, iSeqD, iR1, iR2, iR3, dYes, rdAdd, rdSub, rdMul, rdDiv, rdMod, rdPow, rdIAdd, rdCmp, rdIsN, isNon, rdEqG, rdIx_tup, rdIx_rol, rdSet, rdSl, rdLen, rdInt1, rdInt, rdInt2, rdAppend, startN, wipeD, List.map_cons, List.map_nil, List.length_cons, List.length_nil, Nat.zero_add, Nat.sub_self, Nat.reduceAdd, Nat.reduceSub, List.replicate_succ, List.replicate_zero, List.cons_append, List.nil_append, List.append_nil, List.getElem?_cons_zero, List.getElem?_cons_succ, List.set_cons_zero, List.set_cons_succ, Option.some.injEq, exists_eq_left', DEnds.xd, atI_0, atI_1, atI_2, atI_3, atI_4, atI_5, atI_6, atI_7, ixN_50, ixN_51, ixN_52, ixN_53, ixN_54, ixN_30, ixN_31, ixN_32, put_same, put_put, true_and, and_true, rdIsB, isBlV, rdStrI, rdIntS, rdMulS, dDict0, dDict1, dTry, wD, decide_true, decide_false, Bool.not_true, Bool.not_false, Bool.false_eq_true, if_true, if_false]
  refine ⟨divp 64 (by decide) (by decide), a, cc, _, rfl, ht3.h, by decide, abs10 (n := 20) (by decide) (by decide), fun few T4 ht4 hf1 hf2 => ?_⟩
  simp only [dSeq, dAsg, dRet, dRetN, dIfS, dNext, dDrop, dRaise, dBreak, dCont, dTest, dOp, dVar, dC, dCB, dCons, dNil, dCall, dAndV, dOrV, dNotV, dAndT, dOrT, dNotT, dIf, dTup, dLst, dSl, oSome, oNone, dNeg, gN, gT, gConsD, gNilD, gSubD, dChain, dPar, dAug, dLc, dFor, dBM, isLst, iSeqD, iR1, iR2, iR3, dYes, rdAdd, rdSub, rdMul, rdDiv, rdMod, rdPow, rdIAdd, rdCmp, rdIsN, isNon, rdEqG, rdIx_tup, rdIx_rol, rdSet, rdSl, rdLen, rdInt1, rdInt, rdInt2, rdAppend, startN, wipeD, List.map_cons, List.map_nil, List.length_cons, List.length_nil, Nat.zero_add, Nat.sub_self, Nat.reduceAdd, Nat.reduceSub, List.replicate_succ, List.replicate_zero, List.cons_append, List.nil_append, List.append_nil, List.getElem?_cons_zero, List.getElem?_cons_succ, List.set_cons_zero, List.set_cons_succ, Option.some.injEq, exists_eq_left', DEnds.xd, atI_0, atI_1, atI_2, atI_3, atI_4, atI_5, atI_6, atI_7, ixN_50, ixN_51, ixN_52, ixN_53, ixN_54, ixN_30, ixN_31, ixN_32, put_same, put_put, true_and, and_true, rdIsB, isBlV, rdStrI, rdIntS, rdMulS, dDict0, dDict1, dTry, wD, decide_true, decide_false, Bool.not_true, Bool.not_false, Bool.false_eq_true, if_true, if_false]
  obtain ⟨p, hp⟩ := Int.eq_ofNat_of_zero_le (show 0 ≤ r / 2 by omega)
  obtain ⟨q, hq⟩ := Int.eq_ofNat_of_zero_le (show 0 ≤ r2 / 2 by omega)
  obtain ⟨f, rfl⟩ := Int.eq_ofNat_of_zero_le hf1
  have hb : p + q < 2 ^ 101 := by
    have e2 : (2 : Nat) ^ 101 = 2535301200456458802993406410752 := by decide
    rw [e2]
    omega
  rw [hp, hq, show ((p : Int) + (q : Int)) = ((p + q : Nat) : Int) by omega]
  have hs1 := hs.1
  have hs2 := hs.2
  have st := seeds_stay hs1 hs2
  have mu : ∀ j : Int, IntMulOk s j := fun j => mulok_l (by omega) (by omega)
  refine after_q hs1 hs2 (after_q (st p).1 (st p).2 ?_)
  rw [powm2]
  refine ⟨p + q, rfl, hb, mu _, by decide, same_q trivial (iteF ?_)⟩
  refine after_q hs1 hs2 ⟨p + q, rfl, hb, mu _, by decide, same_q trivial (iteF ?_)⟩
  refine ⟨s, f, rfl, hs1, hs2, by omega, after_q hs1 hs2 (same_q trivial (iteF ?_))⟩
  refine after_q (n := 2147483646) hs1 hs2 ?_
  rw [fermat, Int.mul_one, Int.emod_eq_of_lt (by omega) (by omega)]
  refine same_q trivial ?_
  refine after_q (n := 0) hs1 hs2 ?_
  rw [show powF 0 = 1 from by decide, Int.mul_one, Int.emod_eq_of_lt (by omega) (by omega)]
  exact same_q trivial (h _)
end Lw

namespace Lw
open PySem PySem.Spec PyProof.Rows L2 VD
/-! terms, printed by gen.py from the law k01 -/
def topS (i : Nat) : Stmt := PySem.Challenge.pw_guessedworlds_k01_small_integers_and_see.main.body.getD i (.Pass ⟨0, 0, 0, 0⟩)
abbrev s_is_integer : Stmt := topS 7
abbrev N_is_integer : List Str := [Str.ofString "thing"]
theorem sc_is_integer : FnScope N_is_integer [Str.ofString "thing"] (defScope s_is_integer) := ⟨rfl, rfl, rfl, by decide +kernel, rfl, by decide +kernel, by decide +kernel⟩
abbrev s_is_within : Stmt := topS 8
abbrev N_is_within : List Str := [Str.ofString "thing", Str.ofString "least", Str.ofString "most"]
theorem sc_is_within : FnScope N_is_within [Str.ofString "thing", Str.ofString "least", Str.ofString "most"] (defScope s_is_within) := ⟨rfl, rfl, rfl, by decide +kernel, rfl, by decide +kernel, by decide +kernel⟩
abbrev s_is_small : Stmt := topS 9
abbrev N_is_small : List Str := [Str.ofString "thing"]
theorem sc_is_small : FnScope N_is_small [Str.ofString "thing"] (defScope s_is_small) := ⟨rfl, rfl, rfl, by decide +kernel, rfl, by decide +kernel, by decide +kernel⟩
abbrev s_check_integers : Stmt := topS 10
abbrev N_check_integers : List Str := [Str.ofString "things", Str.ofString "thing"]
theorem sc_check_integers : FnScope N_check_integers [Str.ofString "things"] (defScope s_check_integers) := ⟨rfl, rfl, rfl, by decide +kernel, rfl, by decide +kernel, by decide +kernel⟩
abbrev s_small : Stmt := topS 15
abbrev N_small : List Str := [Str.ofString "number"]
theorem sc_small : FnScope N_small [Str.ofString "number"] (defScope s_small) := ⟨rfl, rfl, rfl, by decide +kernel, rfl, by decide +kernel, by decide +kernel⟩
abbrev s_wrapped : Stmt := topS 16
abbrev N_wrapped : List Str := [Str.ofString "number"]
theorem sc_wrapped : FnScope N_wrapped [Str.ofString "number"] (defScope s_wrapped) := ⟨rfl, rfl, rfl, by decide +kernel, rfl, by decide +kernel, by decide +kernel⟩
abbrev s_is_seed : Stmt := topS 17
abbrev N_is_seed : List Str := [Str.ofString "thing"]
theorem sc_is_seed : FnScope N_is_seed [Str.ofString "thing"] (defScope s_is_seed) := ⟨rfl, rfl, rfl, by decide +kernel, rfl, by decide +kernel, by decide +kernel⟩
abbrev s_check_seed : Stmt := topS 18
abbrev N_check_seed : List Str := [Str.ofString "thing"]
theorem sc_check_seed : FnScope N_check_seed [Str.ofString "thing"] (defScope s_check_seed) := ⟨rfl, rfl, rfl, by decide +kernel, rfl, by decide +kernel, by decide +kernel⟩
abbrev s_later_seed : Stmt := topS 19
abbrev N_later_seed : List Str := [Str.ofString "seed"]
theorem sc_later_seed : FnScope N_later_seed [Str.ofString "seed"] (defScope s_later_seed) := ⟨rfl, rfl, rfl, by decide +kernel, rfl, by decide +kernel, by decide +kernel⟩
abbrev s_next_seed : Stmt := topS 20
abbrev N_next_seed : List Str := [Str.ofString "seed"]
theorem sc_next_seed : FnScope N_next_seed [Str.ofString "seed"] (defScope s_next_seed) := ⟨rfl, rfl, rfl, by decide +kernel, rfl, by decide +kernel, by decide +kernel⟩
abbrev s_power_left : Stmt := topS 21
abbrev N_power_left : List Str := [Str.ofString "base", Str.ofString "many", Str.ofString "found", Str.ofString "square", Str.ofString "left"]
theorem sc_power_left : FnScope N_power_left [Str.ofString "base", Str.ofString "many"] (defScope s_power_left) := ⟨rfl, rfl, rfl, by decide +kernel, rfl, by decide +kernel, by decide +kernel⟩
abbrev s_seed_after : Stmt := topS 22
abbrev N_seed_after : List Str := [Str.ofString "seed", Str.ofString "many"]
theorem sc_seed_after : FnScope N_seed_after [Str.ofString "seed", Str.ofString "many"] (defScope s_seed_after) := ⟨rfl, rfl, rfl, by decide +kernel, rfl, by decide +kernel, by decide +kernel⟩
abbrev s_draw : Stmt := topS 23
abbrev N_draw : List Str := [Str.ofString "seed", Str.ofString "below", Str.ofString "later"]
theorem sc_draw : FnScope N_draw [Str.ofString "seed", Str.ofString "below"] (defScope s_draw) := ⟨rfl, rfl, rfl, by decide +kernel, rfl, by decide +kernel, by decide +kernel⟩
abbrev s_drawn : Stmt := topS 24
abbrev N_drawn : List Str := [Str.ofString "seed", Str.ofString "below"]
theorem sc_drawn : FnScope N_drawn [Str.ofString "seed", Str.ofString "below"] (defScope s_drawn) := ⟨rfl, rfl, rfl, by decide +kernel, rfl, by decide +kernel, by decide +kernel⟩
abbrev s__law_hand : Stmt := topS 26
abbrev N__law_hand : List Str := [Str.ofString "_law_script"]
theorem sc__law_hand : FnScope N__law_hand [Str.ofString "_law_script"] (defScope s__law_hand) := ⟨rfl, rfl, rfl, by decide +kernel, rfl, by decide +kernel, by decide +kernel⟩
abbrev s__law_take : Stmt := topS 27
abbrev N__law_take : List Str := [Str.ofString "_law_hand_here", Str.ofString "_law_many", Str.ofString "_law_cell", Str.ofString "_law_found", Str.ofString "_law_number"]
theorem sc__law_take : FnScope N__law_take [Str.ofString "_law_hand_here", Str.ofString "_law_many"] (defScope s__law_take) := ⟨rfl, rfl, rfl, by decide +kernel, rfl, by decide +kernel, by decide +kernel⟩
abbrev s__law_pick : Stmt := topS 28
abbrev N__law_pick : List Str := [Str.ofString "_law_hand_here", Str.ofString "_law_things"]
theorem sc__law_pick : FnScope N__law_pick [Str.ofString "_law_hand_here", Str.ofString "_law_things"] (defScope s__law_pick) := ⟨rfl, rfl, rfl, by decide +kernel, rfl, by decide +kernel, by decide +kernel⟩
abbrev s__law_wide : Stmt := topS 29
abbrev N__law_wide : List Str := [Str.ofString "_law_hand_here"]
theorem sc__law_wide : FnScope N__law_wide [Str.ofString "_law_hand_here"] (defScope s__law_wide) := ⟨rfl, rfl, rfl, by decide +kernel, rfl, by decide +kernel, by decide +kernel⟩
abbrev s__law_small : Stmt := topS 30
abbrev N__law_small : List Str := [Str.ofString "_law_hand_here", Str.ofString "_law_way"]
theorem sc__law_small : FnScope N__law_small [Str.ofString "_law_hand_here"] (defScope s__law_small) := ⟨rfl, rfl, rfl, by decide +kernel, rfl, by decide +kernel, by decide +kernel⟩
abbrev s__law_great : Stmt := topS 31
abbrev N__law_great : List Str := [Str.ofString "_law_hand_here"]
theorem sc__law_great : FnScope N__law_great [Str.ofString "_law_hand_here"] (defScope s__law_great) := ⟨rfl, rfl, rfl, by decide +kernel, rfl, by decide +kernel, by decide +kernel⟩
abbrev s__law_seed : Stmt := topS 32
abbrev N__law_seed : List Str := [Str.ofString "_law_hand_here"]
theorem sc__law_seed : FnScope N__law_seed [Str.ofString "_law_hand_here"] (defScope s__law_seed) := ⟨rfl, rfl, rfl, by decide +kernel, rfl, by decide +kernel, by decide +kernel⟩
abbrev s__law_is_integer : Stmt := topS 33
abbrev N__law_is_integer : List Str := [Str.ofString "_law_thing"]
theorem sc__law_is_integer : FnScope N__law_is_integer [Str.ofString "_law_thing"] (defScope s__law_is_integer) := ⟨rfl, rfl, rfl, by decide +kernel, rfl, by decide +kernel, by decide +kernel⟩
abbrev s__law_is_within : Stmt := topS 34
abbrev N__law_is_within : List Str := [Str.ofString "_law_thing", Str.ofString "_law_least", Str.ofString "_law_most"]
theorem sc__law_is_within : FnScope N__law_is_within [Str.ofString "_law_thing", Str.ofString "_law_least", Str.ofString "_law_most"] (defScope s__law_is_within) := ⟨rfl, rfl, rfl, by decide +kernel, rfl, by decide +kernel, by decide +kernel⟩
abbrev s__law_same : Stmt := topS 35
abbrev N__law_same : List Str := [Str.ofString "_law_actual", Str.ofString "_law_due", Str.ofString "_law_one", Str.ofString "_law_other"]
theorem sc__law_same : FnScope N__law_same [Str.ofString "_law_actual", Str.ofString "_law_due"] (defScope s__law_same) := ⟨rfl, rfl, rfl, by decide +kernel, rfl, by decide +kernel, by decide +kernel⟩
abbrev s__law_odd : Stmt := topS 36
abbrev N__law_odd : List Str := [Str.ofString "_law_hand_here", Str.ofString "_law_way"]
theorem sc__law_odd : FnScope N__law_odd [Str.ofString "_law_hand_here"] (defScope s__law_odd) := ⟨rfl, rfl, rfl, by decide +kernel, rfl, by decide +kernel, by decide +kernel⟩
abbrev s__law_power : Stmt := topS 37
abbrev N__law_power : List Str := [Str.ofString "_law_many", Str.ofString "_law_found", Str.ofString "_law_sign", Str.ofString "_law_two", Str.ofString "_law_four", Str.ofString "_law_eight", Str.ofString "_law_k"]
theorem sc__law_power : FnScope N__law_power [Str.ofString "_law_many"] (defScope s__law_power) := ⟨rfl, rfl, rfl, by decide +kernel, rfl, by decide +kernel, by decide +kernel⟩
abbrev s__law_wrapped : Stmt := topS 38
abbrev N__law_wrapped : List Str := [Str.ofString "_law_thing"]
theorem sc__law_wrapped : FnScope N__law_wrapped [Str.ofString "_law_thing"] (defScope s__law_wrapped) := ⟨rfl, rfl, rfl, by decide +kernel, rfl, by decide +kernel, by decide +kernel⟩
abbrev s__law_next : Stmt := topS 39
abbrev N__law_next : List Str := [Str.ofString "_law_thing"]
theorem sc__law_next : FnScope N__law_next [Str.ofString "_law_thing"] (defScope s__law_next) := ⟨rfl, rfl, rfl, by decide +kernel, rfl, by decide +kernel, by decide +kernel⟩
abbrev s__law_after : Stmt := topS 40
abbrev N__law_after : List Str := [Str.ofString "_law_seed_here", Str.ofString "_law_many"]
theorem sc__law_after : FnScope N__law_after [Str.ofString "_law_seed_here", Str.ofString "_law_many"] (defScope s__law_after) := ⟨rfl, rfl, rfl, by decide +kernel, rfl, by decide +kernel, by decide +kernel⟩
abbrev s__law_drawn : Stmt := topS 41
abbrev N__law_drawn : List Str := [Str.ofString "_law_seed_here", Str.ofString "_law_below"]
theorem sc__law_drawn : FnScope N__law_drawn [Str.ofString "_law_seed_here", Str.ofString "_law_below"] (defScope s__law_drawn) := ⟨rfl, rfl, rfl, by decide +kernel, rfl, by decide +kernel, by decide +kernel⟩
abbrev s__law_due_wrapped : Stmt := topS 42
abbrev N__law_due_wrapped : List Str := [Str.ofString "_law_thing"]
theorem sc__law_due_wrapped : FnScope N__law_due_wrapped [Str.ofString "_law_thing"] (defScope s__law_due_wrapped) := ⟨rfl, rfl, rfl, by decide +kernel, rfl, by decide +kernel, by decide +kernel⟩
abbrev s__law_due_after : Stmt := topS 43
abbrev N__law_due_after : List Str := [Str.ofString "_law_seed_here", Str.ofString "_law_many"]
theorem sc__law_due_after : FnScope N__law_due_after [Str.ofString "_law_seed_here", Str.ofString "_law_many"] (defScope s__law_due_after) := ⟨rfl, rfl, rfl, by decide +kernel, rfl, by decide +kernel, by decide +kernel⟩
abbrev s__law_due_drawn : Stmt := topS 44
abbrev N__law_due_drawn : List Str := [Str.ofString "_law_seed_here", Str.ofString "_law_below", Str.ofString "_law_later"]
theorem sc__law_due_drawn : FnScope N__law_due_drawn [Str.ofString "_law_seed_here", Str.ofString "_law_below"] (defScope s__law_due_drawn) := ⟨rfl, rfl, rfl, by decide +kernel, rfl, by decide +kernel, by decide +kernel⟩
abbrev s__law_some : Stmt := topS 45
abbrev N__law_some : List Str := [Str.ofString "_law_hand_here", Str.ofString "_law_right"]
theorem sc__law_some : FnScope N__law_some [Str.ofString "_law_hand_here", Str.ofString "_law_right"] (defScope s__law_some) := ⟨rfl, rfl, rfl, by decide +kernel, rfl, by decide +kernel, by decide +kernel⟩
abbrev s__law_chained : Stmt := topS 46
abbrev N__law_chained : List Str := [Str.ofString "_law_seed_here", Str.ofString "_law_many", Str.ofString "_law_here", Str.ofString "_law_k"]
theorem sc__law_chained : FnScope N__law_chained [Str.ofString "_law_seed_here", Str.ofString "_law_many"] (defScope s__law_chained) := ⟨rfl, rfl, rfl, by decide +kernel, rfl, by decide +kernel, by decide +kernel⟩
abbrev s_law : Stmt := topS 47
abbrev N_law : List Str := [Str.ofString "_law_script", Str.ofString "_law_hand_here", Str.ofString "_law_k", Str.ofString "_law_number", Str.ofString "_law_seed_here", Str.ofString "_law_many", Str.ofString "_law_below", Str.ofString "_law_due", Str.ofString "_law_one", Str.ofString "_law_other", Str.ofString "_law_few"]
theorem sc_law : FnScope N_law [Str.ofString "_law_script"] (defScope s_law) := ⟨rfl, rfl, rfl, by decide +kernel, rfl, by decide +kernel, by decide +kernel⟩
structure Tx (K : PySem.W.Frag) (mg : Str → Option Value) (A : Ad) where
  a_is_integer : Addr
  fd_is_integer : FuncData
  F_is_integer : Fun K "is_integer" "is_integer" s_is_integer a_is_integer fd_is_integer
  m_is_integer : mg "is_integer" = some (.ref a_is_integer)
  b_is_integer : Binds K fd_is_integer [Str.ofString "thing"] []
  a_is_within : Addr
  fd_is_within : FuncData
  F_is_within : Fun K "is_within" "is_within" s_is_within a_is_within fd_is_within
  m_is_within : mg "is_within" = some (.ref a_is_within)
  b_is_within : Binds K fd_is_within [Str.ofString "thing", Str.ofString "least", Str.ofString "most"] []
  a_is_small : Addr
  fd_is_small : FuncData
  F_is_small : Fun K "is_small" "is_small" s_is_small a_is_small fd_is_small
  m_is_small : mg "is_small" = some (.ref a_is_small)
  b_is_small : Binds K fd_is_small [Str.ofString "thing"] []
  a_check_integers : Addr
  fd_check_integers : FuncData
  F_check_integers : Fun K "check_integers" "check_integers" s_check_integers a_check_integers fd_check_integers
  m_check_integers : mg "check_integers" = some (.ref a_check_integers)
  b_check_integers : Binds K fd_check_integers [Str.ofString "things"] []
  a_small : Addr
  fd_small : FuncData
  F_small : Fun K "small" "small" s_small a_small fd_small
  m_small : mg "small" = some (.ref a_small)
  b_small : Binds K fd_small [Str.ofString "number"] []
  a_wrapped : Addr
  fd_wrapped : FuncData
  F_wrapped : Fun K "wrapped" "wrapped" s_wrapped a_wrapped fd_wrapped
  m_wrapped : mg "wrapped" = some (.ref a_wrapped)
  b_wrapped : Binds K fd_wrapped [Str.ofString "number"] []
  a_is_seed : Addr
  fd_is_seed : FuncData
  F_is_seed : Fun K "is_seed" "is_seed" s_is_seed a_is_seed fd_is_seed
  m_is_seed : mg "is_seed" = some (.ref a_is_seed)
  b_is_seed : Binds K fd_is_seed [Str.ofString "thing"] []
  a_check_seed : Addr
  fd_check_seed : FuncData
  F_check_seed : Fun K "check_seed" "check_seed" s_check_seed a_check_seed fd_check_seed
  m_check_seed : mg "check_seed" = some (.ref a_check_seed)
  b_check_seed : Binds K fd_check_seed [Str.ofString "thing"] []
  a_later_seed : Addr
  fd_later_seed : FuncData
  F_later_seed : Fun K "later_seed" "later_seed" s_later_seed a_later_seed fd_later_seed
  m_later_seed : mg "later_seed" = some (.ref a_later_seed)
  b_later_seed : Binds K fd_later_seed [Str.ofString "seed"] []
  a_next_seed : Addr
  fd_next_seed : FuncData
  F_next_seed : Fun K "next_seed" "next_seed" s_next_seed a_next_seed fd_next_seed
  m_next_seed : mg "next_seed" = some (.ref a_next_seed)
  b_next_seed : Binds K fd_next_seed [Str.ofString "seed"] []
  a_power_left : Addr
  fd_power_left : FuncData
  F_power_left : Fun K "power_left" "power_left" s_power_left a_power_left fd_power_left
  m_power_left : mg "power_left" = some (.ref a_power_left)
  b_power_left : Binds K fd_power_left [Str.ofString "base", Str.ofString "many"] []
  a_seed_after : Addr
  fd_seed_after : FuncData
  F_seed_after : Fun K "seed_after" "seed_after" s_seed_after a_seed_after fd_seed_after
  m_seed_after : mg "seed_after" = some (.ref a_seed_after)
  b_seed_after : Binds K fd_seed_after [Str.ofString "seed", Str.ofString "many"] []
  a_draw : Addr
  fd_draw : FuncData
  F_draw : Fun K "draw" "draw" s_draw a_draw fd_draw
  m_draw : mg "draw" = some (.ref a_draw)
  b_draw : Binds K fd_draw [Str.ofString "seed", Str.ofString "below"] []
  a_drawn : Addr
  fd_drawn : FuncData
  F_drawn : Fun K "drawn" "drawn" s_drawn a_drawn fd_drawn
  m_drawn : mg "drawn" = some (.ref a_drawn)
  b_drawn : Binds K fd_drawn [Str.ofString "seed", Str.ofString "below"] []
  a__law_hand : Addr
  fd__law_hand : FuncData
  F__law_hand : Fun K "_law_hand" "_law_hand" s__law_hand a__law_hand fd__law_hand
  m__law_hand : mg "_law_hand" = some (.ref a__law_hand)
  b__law_hand : Binds K fd__law_hand [Str.ofString "_law_script"] []
  a__law_take : Addr
  fd__law_take : FuncData
  F__law_take : Fun K "_law_take" "_law_take" s__law_take a__law_take fd__law_take
  m__law_take : mg "_law_take" = some (.ref a__law_take)
  b__law_take : Binds K fd__law_take [Str.ofString "_law_hand_here", Str.ofString "_law_many"] []
  a__law_pick : Addr
  fd__law_pick : FuncData
  F__law_pick : Fun K "_law_pick" "_law_pick" s__law_pick a__law_pick fd__law_pick
  m__law_pick : mg "_law_pick" = some (.ref a__law_pick)
  b__law_pick : Binds K fd__law_pick [Str.ofString "_law_hand_here", Str.ofString "_law_things"] []
  a__law_wide : Addr
  fd__law_wide : FuncData
  F__law_wide : Fun K "_law_wide" "_law_wide" s__law_wide a__law_wide fd__law_wide
  m__law_wide : mg "_law_wide" = some (.ref a__law_wide)
  b__law_wide : Binds K fd__law_wide [Str.ofString "_law_hand_here"] []
  a__law_small : Addr
  fd__law_small : FuncData
  F__law_small : Fun K "_law_small" "_law_small" s__law_small a__law_small fd__law_small
  m__law_small : mg "_law_small" = some (.ref a__law_small)
  b__law_small : Binds K fd__law_small [Str.ofString "_law_hand_here"] []
  a__law_great : Addr
  fd__law_great : FuncData
  F__law_great : Fun K "_law_great" "_law_great" s__law_great a__law_great fd__law_great
  m__law_great : mg "_law_great" = some (.ref a__law_great)
  b__law_great : Binds K fd__law_great [Str.ofString "_law_hand_here"] []
  a__law_seed : Addr
  fd__law_seed : FuncData
  F__law_seed : Fun K "_law_seed" "_law_seed" s__law_seed a__law_seed fd__law_seed
  m__law_seed : mg "_law_seed" = some (.ref a__law_seed)
  b__law_seed : Binds K fd__law_seed [Str.ofString "_law_hand_here"] []
  a__law_is_integer : Addr
  fd__law_is_integer : FuncData
  F__law_is_integer : Fun K "_law_is_integer" "_law_is_integer" s__law_is_integer a__law_is_integer fd__law_is_integer
  m__law_is_integer : mg "_law_is_integer" = some (.ref a__law_is_integer)
  b__law_is_integer : Binds K fd__law_is_integer [Str.ofString "_law_thing"] []
  a__law_is_within : Addr
  fd__law_is_within : FuncData
  F__law_is_within : Fun K "_law_is_within" "_law_is_within" s__law_is_within a__law_is_within fd__law_is_within
  m__law_is_within : mg "_law_is_within" = some (.ref a__law_is_within)
  b__law_is_within : Binds K fd__law_is_within [Str.ofString "_law_thing", Str.ofString "_law_least", Str.ofString "_law_most"] []
  a__law_same : Addr
  fd__law_same : FuncData
  F__law_same : Fun K "_law_same" "_law_same" s__law_same a__law_same fd__law_same
  m__law_same : mg "_law_same" = some (.ref a__law_same)
  b__law_same : Binds K fd__law_same [Str.ofString "_law_actual", Str.ofString "_law_due"] []
  a__law_odd : Addr
  fd__law_odd : FuncData
  F__law_odd : Fun K "_law_odd" "_law_odd" s__law_odd a__law_odd fd__law_odd
  m__law_odd : mg "_law_odd" = some (.ref a__law_odd)
  b__law_odd : Binds K fd__law_odd [Str.ofString "_law_hand_here"] []
  a__law_power : Addr
  fd__law_power : FuncData
  F__law_power : Fun K "_law_power" "_law_power" s__law_power a__law_power fd__law_power
  m__law_power : mg "_law_power" = some (.ref a__law_power)
  b__law_power : Binds K fd__law_power [Str.ofString "_law_many"] []
  a__law_wrapped : Addr
  fd__law_wrapped : FuncData
  F__law_wrapped : Fun K "_law_wrapped" "_law_wrapped" s__law_wrapped a__law_wrapped fd__law_wrapped
  m__law_wrapped : mg "_law_wrapped" = some (.ref a__law_wrapped)
  b__law_wrapped : Binds K fd__law_wrapped [Str.ofString "_law_thing"] []
  a__law_next : Addr
  fd__law_next : FuncData
  F__law_next : Fun K "_law_next" "_law_next" s__law_next a__law_next fd__law_next
  m__law_next : mg "_law_next" = some (.ref a__law_next)
  b__law_next : Binds K fd__law_next [Str.ofString "_law_thing"] []
  a__law_after : Addr
  fd__law_after : FuncData
  F__law_after : Fun K "_law_after" "_law_after" s__law_after a__law_after fd__law_after
  m__law_after : mg "_law_after" = some (.ref a__law_after)
  b__law_after : Binds K fd__law_after [Str.ofString "_law_seed_here", Str.ofString "_law_many"] []
  a__law_drawn : Addr
  fd__law_drawn : FuncData
  F__law_drawn : Fun K "_law_drawn" "_law_drawn" s__law_drawn a__law_drawn fd__law_drawn
  m__law_drawn : mg "_law_drawn" = some (.ref a__law_drawn)
  b__law_drawn : Binds K fd__law_drawn [Str.ofString "_law_seed_here", Str.ofString "_law_below"] []
  a__law_due_wrapped : Addr
  fd__law_due_wrapped : FuncData
  F__law_due_wrapped : Fun K "_law_due_wrapped" "_law_due_wrapped" s__law_due_wrapped a__law_due_wrapped fd__law_due_wrapped
  m__law_due_wrapped : mg "_law_due_wrapped" = some (.ref a__law_due_wrapped)
  b__law_due_wrapped : Binds K fd__law_due_wrapped [Str.ofString "_law_thing"] []
  a__law_due_after : Addr
  fd__law_due_after : FuncData
  F__law_due_after : Fun K "_law_due_after" "_law_due_after" s__law_due_after a__law_due_after fd__law_due_after
  m__law_due_after : mg "_law_due_after" = some (.ref a__law_due_after)
  b__law_due_after : Binds K fd__law_due_after [Str.ofString "_law_seed_here", Str.ofString "_law_many"] []
  a__law_due_drawn : Addr
  fd__law_due_drawn : FuncData
  F__law_due_drawn : Fun K "_law_due_drawn" "_law_due_drawn" s__law_due_drawn a__law_due_drawn fd__law_due_drawn
  m__law_due_drawn : mg "_law_due_drawn" = some (.ref a__law_due_drawn)
  b__law_due_drawn : Binds K fd__law_due_drawn [Str.ofString "_law_seed_here", Str.ofString "_law_below"] []
  a__law_some : Addr
  fd__law_some : FuncData
  F__law_some : Fun K "_law_some" "_law_some" s__law_some a__law_some fd__law_some
  m__law_some : mg "_law_some" = some (.ref a__law_some)
  b__law_some : Binds K fd__law_some [Str.ofString "_law_hand_here", Str.ofString "_law_right"] []
  a__law_chained : Addr
  fd__law_chained : FuncData
  F__law_chained : Fun K "_law_chained" "_law_chained" s__law_chained a__law_chained fd__law_chained
  m__law_chained : mg "_law_chained" = some (.ref a__law_chained)
  b__law_chained : Binds K fd__law_chained [Str.ofString "_law_seed_here", Str.ofString "_law_many"] []
  a_law : Addr
  fd_law : FuncData
  F_law : Fun K "law" "law" s_law a_law fd_law
  m_law : mg "law" = some (.ref a_law)
  b_law : Binds K fd_law [Str.ofString "_law_script"] []
  u_LEAST_SMALL : Value
  m_LEAST_SMALL : mg "LEAST_SMALL" = some u_LEAST_SMALL
  v_LEAST_SMALL : VRep K u_LEAST_SMALL (.int (-2147483648))
  u_MOST_SMALL : Value
  m_MOST_SMALL : mg "MOST_SMALL" = some u_MOST_SMALL
  v_MOST_SMALL : VRep K u_MOST_SMALL (.int 2147483647)
  u_PRIME : Value
  m_PRIME : mg "PRIME" = some u_PRIME
  v_PRIME : VRep K u_PRIME (.int 2147483647)
  u_STEP : Value
  m_STEP : mg "STEP" = some u_STEP
  v_STEP : VRep K u_STEP (.int 48271)
  u_WHOLE : Value
  m_WHOLE : mg "WHOLE" = some u_WHOLE
  v_WHOLE : VRep K u_WHOLE (.int 4294967296)
  n_all : mg "all" = none
  n_bool : mg "bool" = none
  n_int : mg "int" = none
  n_isinstance : mg "isinstance" = none
  n_len : mg "len" = none
  n_list : mg "list" = none
  n_range : mg "range" = none
  n_str : mg "str" = none
  n_tuple : mg "tuple" = none
  n_zip : mg "zip" = none
  m_NoNumber : mg "NoNumber" = some (.ref A.NoNumber)
  x_NoNumber : Exc0 K A.NoNumber
  m_NoSeed : mg "NoSeed" = some (.ref A.NoSeed)
  x_NoSeed : Exc0 K A.NoSeed
  e_NoNumber_NoNumber : PySem.W.exmOne K (.ref A.NoNumber) (.ref A.NoNumber) = some true
  e_NoNumber_NoSeed : PySem.W.exmOne K (.ref A.NoNumber) (.ref A.NoSeed) = some false
  e_NoSeed_NoNumber : PySem.W.exmOne K (.ref A.NoSeed) (.ref A.NoNumber) = some false
  e_NoSeed_NoSeed : PySem.W.exmOne K (.ref A.NoSeed) (.ref A.NoSeed) = some true
section
variable {P : Program} {w : World} {K : PySem.W.Frag} {mg : Str → Option Value} {base : Heap} {A : Ad}
theorem w_is_integer (T : Tx K mg A) (cdv : Value) (An : Around) (outer : List Env) (s : Shared) (H : Hp) (E : XK) (hr : Room 0 (An.deeper (envOfC "is_integer" (defScope s_is_integer) s.heap.objs.size T.a_is_integer cdv))) :
    PSs (cxOf (L2.CX P w) P w K mg base N_is_integer "is_integer" (defScope s_is_integer) T.a_is_integer cdv An outer s H E) (defBody s_is_integer) (lowS K (WF E) r_is_integer) :=
  (s_one (s_ret (d_and (d_callB call_isiA l_isi T.n_isinstance bt_isinstance (da_cons (dv 0) (da_cons (d_ty T.n_int bt_int) da_nil))) (d_one (d_not (d_callB call_isiA l_isi T.n_isinstance bt_isinstance (da_cons (dv 0) (da_cons (d_ty T.n_bool bt_bool) da_nil))))))))
theorem w_is_within (T : Tx K mg A) (G_is_integer : FnD P w K mg base 1 T.a_is_integer T.fd_is_integer [Str.ofString "thing"] sp_is_integer) (cdv : Value) (An : Around) (outer : List Env) (s : Shared) (H : Hp) (E : XK) (hr : Room 1 (An.deeper (envOfC "is_within" (defScope s_is_within) s.heap.objs.size T.a_is_within cdv))) :
    PSs (cxOf (L2.CX P w) P w K mg base N_is_within "is_within" (defScope s_is_within) T.a_is_within cdv An outer s H E) (defBody s_is_within) (lowS K (WF E) r_is_within) :=
  (s_one (s_ret (d_and (d_call G_is_integer (hr.mono (by decide)) T.m_is_integer T.F_is_integer.kp T.b_is_integer tkF (da_cons (dv 0) da_nil)) (d_one (d_chain op_le l_cmp op_le l_cmp (dv 1) (dv 0) (dv 2))))))
theorem w_is_small (T : Tx K mg A) (G_is_within : FnD P w K mg base 2 T.a_is_within T.fd_is_within [Str.ofString "thing", Str.ofString "least", Str.ofString "most"] sp_is_within) (cdv : Value) (An : Around) (outer : List Env) (s : Shared) (H : Hp) (E : XK) (hr : Room 2 (An.deeper (envOfC "is_small" (defScope s_is_small) s.heap.objs.size T.a_is_small cdv))) :
    PSs (cxOf (L2.CX P w) P w K mg base N_is_small "is_small" (defScope s_is_small) T.a_is_small cdv An outer s H E) (defBody s_is_small) (lowS K (WF E) r_is_small) :=
  (s_one (s_ret (d_call G_is_within (hr.mono (by decide)) T.m_is_within T.F_is_within.kp T.b_is_within tkF (da_cons (dv 0) (da_cons (d_glob T.m_LEAST_SMALL T.v_LEAST_SMALL) (da_cons (d_glob T.m_MOST_SMALL T.v_MOST_SMALL) da_nil))))))
theorem w_check_integers (T : Tx K mg A) (G_is_integer : FnD P w K mg base 1 T.a_is_integer T.fd_is_integer [Str.ofString "thing"] sp_is_integer) (cdv : Value) (An : Around) (outer : List Env) (s : Shared) (H : Hp) (E : XK) (hr : Room 1 (An.deeper (envOfC "check_integers" (defScope s_check_integers) s.heap.objs.size T.a_check_integers cdv))) :
    PSs (cxOf (L2.CX P w) P w K mg base N_check_integers "check_integers" (defScope s_check_integers) T.a_check_integers cdv An outer s H E) (defBody s_check_integers) (lowS K (WF E) (r_check_integers A.NoNumber)) :=
  (s_one (s_if (t_not (t_val (d_callB (cr_all rfl) l_all T.n_all bt_all (da_cons (d_lc (own := [(Str.ofString "thing", 1)]) rfl sc_check_integers.nd (i_seq (dv 0)) (blkOk_by (N := N_check_integers) (sc := defScope s_check_integers) (by decide +kernel)) (fun _ _ _ _ _ => (pg_name (i := 1) sc_check_integers.nd rfl (Or.inl rfl))) (ng_name (by decide)) (fun _ _ _ _ _ => c_nil) (fun _ _ _ _ _ => (d_call G_is_integer (hr.mono (by decide)) T.m_is_integer T.F_is_integer.kp T.b_is_integer takes0 (da_cons (dv 1) da_nil)))) da_nil)))) (s_one (s_raise0 rfl tkF T.x_NoNumber T.m_NoNumber)) s_nil))
theorem w_small (T : Tx K mg A) (cdv : Value) (An : Around) (outer : List Env) (s : Shared) (H : Hp) (E : XK) (hr : Room 0 (An.deeper (envOfC "small" (defScope s_small) s.heap.objs.size T.a_small cdv))) :
    PSs (cxOf (L2.CX P w) P w K mg base N_small "small" (defScope s_small) T.a_small cdv An outer s H E) (defBody s_small) (lowS K (WF E) r_small) :=
  (s_one (s_ret (d_op op_addA l_add (d_op op_mod l_mod (d_op op_sub l_sub (dv 0) (d_glob T.m_LEAST_SMALL T.v_LEAST_SMALL)) (d_glob T.m_WHOLE T.v_WHOLE)) (d_glob T.m_LEAST_SMALL T.v_LEAST_SMALL))))
theorem w_wrapped (T : Tx K mg A) (G_check_integers : FnD P w K mg base 2 T.a_check_integers T.fd_check_integers [Str.ofString "things"] (sp_check_integers A.NoNumber)) (G_small : FnD P w K mg base 1 T.a_small T.fd_small [Str.ofString "number"] sp_small) (cdv : Value) (An : Around) (outer : List Env) (s : Shared) (H : Hp) (E : XK) (hr : Room 2 (An.deeper (envOfC "wrapped" (defScope s_wrapped) s.heap.objs.size T.a_wrapped cdv))) :
    PSs (cxOf (L2.CX P w) P w K mg base N_wrapped "wrapped" (defScope s_wrapped) T.a_wrapped cdv An outer s H E) (defBody s_wrapped) (lowS K (WF E) (r_wrapped A.NoNumber)) :=
  (s_cons (s_expr (d_call G_check_integers (hr.mono (by decide)) T.m_check_integers T.F_check_integers.kp T.b_check_integers tkF (da_cons (d_tup (da_cons (dv 0) da_nil)) da_nil)))
    (s_one (s_ret (d_call G_small (hr.mono (by decide)) T.m_small T.F_small.kp T.b_small tkF (da_cons (dv 0) da_nil)))))
theorem w_is_seed (T : Tx K mg A) (G_is_within : FnD P w K mg base 2 T.a_is_within T.fd_is_within [Str.ofString "thing", Str.ofString "least", Str.ofString "most"] sp_is_within) (cdv : Value) (An : Around) (outer : List Env) (s : Shared) (H : Hp) (E : XK) (hr : Room 2 (An.deeper (envOfC "is_seed" (defScope s_is_seed) s.heap.objs.size T.a_is_seed cdv))) :
    PSs (cxOf (L2.CX P w) P w K mg base N_is_seed "is_seed" (defScope s_is_seed) T.a_is_seed cdv An outer s H E) (defBody s_is_seed) (lowS K (WF E) r_is_seed) :=
  (s_one (s_ret (d_call G_is_within (hr.mono (by decide)) T.m_is_within T.F_is_within.kp T.b_is_within tkF (da_cons (dv 0) (da_cons d_int (da_cons (d_op op_sub l_sub (d_glob T.m_PRIME T.v_PRIME) d_int) da_nil))))))
theorem w_check_seed (T : Tx K mg A) (G_is_seed : FnD P w K mg base 3 T.a_is_seed T.fd_is_seed [Str.ofString "thing"] sp_is_seed) (cdv : Value) (An : Around) (outer : List Env) (s : Shared) (H : Hp) (E : XK) (hr : Room 3 (An.deeper (envOfC "check_seed" (defScope s_check_seed) s.heap.objs.size T.a_check_seed cdv))) :
    PSs (cxOf (L2.CX P w) P w K mg base N_check_seed "check_seed" (defScope s_check_seed) T.a_check_seed cdv An outer s H E) (defBody s_check_seed) (lowS K (WF E) (r_check_seed A.NoSeed)) :=
  (s_one (s_if (t_not (t_val (d_call G_is_seed (hr.mono (by decide)) T.m_is_seed T.F_is_seed.kp T.b_is_seed tkF (da_cons (dv 0) da_nil)))) (s_one (s_raise0 rfl tkF T.x_NoSeed T.m_NoSeed)) s_nil))
theorem w_later_seed (T : Tx K mg A) (cdv : Value) (An : Around) (outer : List Env) (s : Shared) (H : Hp) (E : XK) (hr : Room 0 (An.deeper (envOfC "later_seed" (defScope s_later_seed) s.heap.objs.size T.a_later_seed cdv))) :
    PSs (cxOf (L2.CX P w) P w K mg base N_later_seed "later_seed" (defScope s_later_seed) T.a_later_seed cdv An outer s H E) (defBody s_later_seed) (lowS K (WF E) r_later_seed) :=
  (s_one (s_ret (d_op op_mod l_mod (d_op op_mulA l_mul (dv 0) (d_glob T.m_STEP T.v_STEP)) (d_glob T.m_PRIME T.v_PRIME))))
theorem w_next_seed (T : Tx K mg A) (G_check_seed : FnD P w K mg base 4 T.a_check_seed T.fd_check_seed [Str.ofString "thing"] (sp_check_seed A.NoSeed)) (G_later_seed : FnD P w K mg base 1 T.a_later_seed T.fd_later_seed [Str.ofString "seed"] sp_later_seed) (cdv : Value) (An : Around) (outer : List Env) (s : Shared) (H : Hp) (E : XK) (hr : Room 4 (An.deeper (envOfC "next_seed" (defScope s_next_seed) s.heap.objs.size T.a_next_seed cdv))) :
    PSs (cxOf (L2.CX P w) P w K mg base N_next_seed "next_seed" (defScope s_next_seed) T.a_next_seed cdv An outer s H E) (defBody s_next_seed) (lowS K (WF E) (r_next_seed A.NoSeed)) :=
  (s_cons (s_expr (d_call G_check_seed (hr.mono (by decide)) T.m_check_seed T.F_check_seed.kp T.b_check_seed tkF (da_cons (dv 0) da_nil)))
    (s_one (s_ret (d_call G_later_seed (hr.mono (by decide)) T.m_later_seed T.F_later_seed.kp T.b_later_seed tkF (da_cons (dv 0) da_nil)))))
theorem w_power_left (T : Tx K mg A) (cdv : Value) (An : Around) (outer : List Env) (s : Shared) (H : Hp) (E : XK) (hr : Room 0 (An.deeper (envOfC "power_left" (defScope s_power_left) s.heap.objs.size T.a_power_left cdv))) :
    PSs (cxOf (L2.CX P w) P w K mg base N_power_left "power_left" (defScope s_power_left) T.a_power_left cdv An outer s H E) (defBody s_power_left) (lowS K (WF E) r_power_left) :=
  (s_cons (s_set 2 sc_power_left.nd d_int)
    (s_cons (s_set 3 sc_power_left.nd (d_op op_mod l_mod (dv 0) (d_glob T.m_PRIME T.v_PRIME)))
    (s_cons (s_set 4 sc_power_left.nd (dv 1))
    (s_cons (s_while (passes_of rfl) (t_cmp op_gt l_cmp (dv 4) d_int) (s_cons (s_if (t_cmp (op_eqA hr.units) l_eq (d_op op_mod l_mod (dv 4) d_int) d_int) (s_one (s_set 2 sc_power_left.nd (d_op op_mod l_mod (d_op op_mulA l_mul (dv 2) (dv 3)) (d_glob T.m_PRIME T.v_PRIME)))) s_nil)
    (s_cons (s_set 3 sc_power_left.nd (d_op op_mod l_mod (d_op op_mulA l_mul (dv 3) (dv 3)) (d_glob T.m_PRIME T.v_PRIME)))
    (s_one (s_set 4 sc_power_left.nd (d_op op_divP l_div (dv 4) d_int))))))
    (s_one (s_ret (dv 2)))))))
theorem w_seed_after (T : Tx K mg A) (G_is_integer : FnD P w K mg base 1 T.a_is_integer T.fd_is_integer [Str.ofString "thing"] sp_is_integer) (G_check_seed : FnD P w K mg base 4 T.a_check_seed T.fd_check_seed [Str.ofString "thing"] (sp_check_seed A.NoSeed)) (G_power_left : FnD P w K mg base 1 T.a_power_left T.fd_power_left [Str.ofString "base", Str.ofString "many"] sp_power_left) (cdv : Value) (An : Around) (outer : List Env) (s : Shared) (H : Hp) (E : XK) (hr : Room 4 (An.deeper (envOfC "seed_after" (defScope s_seed_after) s.heap.objs.size T.a_seed_after cdv))) :
    PSs (cxOf (L2.CX P w) P w K mg base N_seed_after "seed_after" (defScope s_seed_after) T.a_seed_after cdv An outer s H E) (defBody s_seed_after) (lowS K (WF E) (r_seed_after A.NoNumber A.NoSeed)) :=
  (s_cons (s_expr (d_call G_check_seed (hr.mono (by decide)) T.m_check_seed T.F_check_seed.kp T.b_check_seed tkF (da_cons (dv 0) da_nil)))
    (s_cons (s_if (PW.pt (t_or (t_not (t_val (d_call G_is_integer (hr.mono (by decide)) T.m_is_integer T.F_is_integer.kp T.b_is_integer tkF (da_cons (dv 1) da_nil)))) (t_or1 (t_cmp op_lt l_cmp (dv 1) d_int)))) (s_one (s_raise0 rfl tkF T.x_NoNumber T.m_NoNumber)) s_nil)
    (s_one (s_ret (d_op op_mod l_mod (d_op op_mulA l_mul (dv 0) (d_call G_power_left (hr.mono (by decide)) T.m_power_left T.F_power_left.kp T.b_power_left tkF (da_cons (d_glob T.m_STEP T.v_STEP) (da_cons (dv 1) da_nil)))) (d_glob T.m_PRIME T.v_PRIME))))))
theorem w_draw (T : Tx K mg A) (G_later_seed : FnD P w K mg base 1 T.a_later_seed T.fd_later_seed [Str.ofString "seed"] sp_later_seed) (cdv : Value) (An : Around) (outer : List Env) (s : Shared) (H : Hp) (E : XK) (hr : Room 1 (An.deeper (envOfC "draw" (defScope s_draw) s.heap.objs.size T.a_draw cdv))) :
    PSs (cxOf (L2.CX P w) P w K mg base N_draw "draw" (defScope s_draw) T.a_draw cdv An outer s H E) (defBody s_draw) (lowS K (WF E) r_draw) :=
  (s_cons (s_if (t_cmp op_lt l_cmp (dv 1) d_int) (s_one (s_ret (d_tup (da_cons d_int (da_cons (dv 0) da_nil))))) s_nil)
    (s_cons (s_set 2 sc_draw.nd (d_call G_later_seed (hr.mono (by decide)) T.m_later_seed T.F_later_seed.kp T.b_later_seed tkF (da_cons (dv 0) da_nil)))
    (s_one (s_ret (d_tup (da_cons (d_op op_mod l_mod (d_op op_divP l_div (dv 2) d_int) (dv 1)) (da_cons (dv 2) da_nil)))))))
theorem w_drawn (T : Tx K mg A) (G_is_small : FnD P w K mg base 3 T.a_is_small T.fd_is_small [Str.ofString "thing"] sp_is_small) (G_check_seed : FnD P w K mg base 4 T.a_check_seed T.fd_check_seed [Str.ofString "thing"] (sp_check_seed A.NoSeed)) (G_draw : FnD P w K mg base 2 T.a_draw T.fd_draw [Str.ofString "seed", Str.ofString "below"] sp_draw) (cdv : Value) (An : Around) (outer : List Env) (s : Shared) (H : Hp) (E : XK) (hr : Room 4 (An.deeper (envOfC "drawn" (defScope s_drawn) s.heap.objs.size T.a_drawn cdv))) :
    PSs (cxOf (L2.CX P w) P w K mg base N_drawn "drawn" (defScope s_drawn) T.a_drawn cdv An outer s H E) (defBody s_drawn) (lowS K (WF E) (r_drawn A.NoNumber A.NoSeed)) :=
  (s_cons (s_expr (d_call G_check_seed (hr.mono (by decide)) T.m_check_seed T.F_check_seed.kp T.b_check_seed tkF (da_cons (dv 0) da_nil)))
    (s_cons (s_if (t_not (t_val (d_call G_is_small (hr.mono (by decide)) T.m_is_small T.F_is_small.kp T.b_is_small tkF (da_cons (dv 1) da_nil)))) (s_one (s_raise0 rfl tkF T.x_NoNumber T.m_NoNumber)) s_nil)
    (s_one (s_ret (d_call G_draw (hr.mono (by decide)) T.m_draw T.F_draw.kp T.b_draw tkF (da_cons (dv 0) (da_cons (dv 1) da_nil)))))))
theorem w__law_hand (T : Tx K mg A) (cdv : Value) (An : Around) (outer : List Env) (s : Shared) (H : Hp) (E : XK) (hr : Room 0 (An.deeper (envOfC "_law_hand" (defScope s__law_hand) s.heap.objs.size T.a__law_hand cdv))) :
    PSs (cxOf (L2.CX P w) P w K mg base N__law_hand "_law_hand" (defScope s__law_hand) T.a__law_hand cdv An outer s H E) (defBody s__law_hand) (lowS K (WF E) r__law_hand) :=
  (s_one (s_ret (d_lst (da_cons (d_callTy call_list_of l_list T.n_list bt_list (da_cons (dv 0) da_nil)) (da_cons d_int (da_cons d_int (da_cons d_int (da_cons d_int da_nil))))))))
theorem w__law_take (T : Tx K mg A) (cdv : Value) (An : Around) (outer : List Env) (s : Shared) (H : Hp) (E : XK) (hr : Room 0 (An.deeper (envOfC "_law_take" (defScope s__law_take) s.heap.objs.size T.a__law_take cdv))) :
    PSs (cxOf (L2.CX P w) P w K mg base N__law_take "_law_take" (defScope s__law_take) T.a__law_take cdv An outer s H E) (defBody s__law_take) (lowS K (WF E) r__law_take) :=
  (s_cons (s_asg (d_op op_addA l_add (d_ix (dv 0) d_int) d_int) (g_sub (W := W0) set_list l_set (dv 0) d_int))
    (s_cons (s_if (PW.pt (t_and (t_cmp (op_eqA hr.units) l_eq (d_ix (dv 0) d_int) d_int) (t_and1 (t_cmp op_lt l_cmp (d_ix (dv 0) d_int) (d_callB call_len l_len T.n_len bt_len (da_cons (d_ix (dv 0) d_int) da_nil)))))) (s_cons (s_set 2 sc__law_take.nd (d_callTy call_int1 l_int T.n_int bt_int (da_cons (d_ix (d_ix (dv 0) d_int) (d_ix (dv 0) d_int)) da_nil)))
    (s_cons (s_asg (d_op op_addA l_add (d_ix (dv 0) d_int) d_int) (g_sub (W := W0) set_list l_set (dv 0) d_int))
    (s_one (s_if (t_cmp op_ge l_cmp (dv 2) (d_op op_pow l_pow d_int d_int)) (s_one (s_asg (dv 2) (g_sub (W := W0) set_list l_set (dv 0) d_int))) (s_one (s_asg (d_op op_mod l_mod (d_callTy call_int1 l_int T.n_int bt_int (da_cons (d_op op_addA l_add (d_op op_addA l_add (d_op op_mulA l_mul (d_ix (dv 0) d_int) d_int) (d_op op_mod l_mod (d_callTy call_int1 l_int T.n_int bt_int (da_cons (dv 2) da_nil)) d_int)) d_int) da_nil)) d_int) (g_sub (W := W0) set_list l_set (dv 0) d_int))))))) s_nil)
    (s_cons (s_if (t_cmp op_gt l_cmp (d_ix (dv 0) d_int) d_int) (s_cons (s_set 3 sc__law_take.nd (d_op op_mod l_mod (d_callTy call_int1 l_int T.n_int bt_int (da_cons (d_ix (dv 0) d_int) da_nil)) (dv 1)))
    (s_cons (s_asg (d_op op_divP l_div (d_callTy call_int1 l_int T.n_int bt_int (da_cons (d_ix (dv 0) d_int) da_nil)) (dv 1)) (g_sub (W := W0) set_list l_set (dv 0) d_int))
    (s_one (s_ret (dv 3))))) s_nil)
    (s_cons (s_asg (d_op op_mod l_mod (d_callTy call_int1 l_int T.n_int bt_int (da_cons (d_op op_addA l_add (d_op op_mulA l_mul (d_ix (dv 0) d_int) d_int) (d_op op_mulA l_mul d_int (d_ix (dv 0) d_int))) da_nil)) d_int) (g_sub (W := W0) set_list l_set (dv 0) d_int))
    (s_cons (s_set 4 sc__law_take.nd (d_op op_mod l_mod (d_callTy call_int1 l_int T.n_int bt_int (da_cons (d_op op_mulA l_mul (d_ix (dv 0) d_int) (d_op op_addA l_add (d_op op_divP l_div (d_ix (dv 0) d_int) d_int) d_int)) da_nil)) d_int))
    (s_cons (s_set 4 sc__law_take.nd (d_op op_mod l_mod (d_callTy call_int1 l_int T.n_int bt_int (da_cons (d_op op_mulA l_mul (dv 4) (d_op op_addA l_add (d_op op_divP l_div (dv 4) d_int) d_int)) da_nil)) d_int))
    (s_one (s_ret (d_op op_mod l_mod (d_callTy call_int1 l_int T.n_int bt_int (da_cons (d_op op_divP l_div (dv 4) d_int) da_nil)) (dv 1))))))))))
theorem w__law_pick (T : Tx K mg A) (G__law_take : FnD P w K mg base 1 T.a__law_take T.fd__law_take [Str.ofString "_law_hand_here", Str.ofString "_law_many"] sp__law_take) (cdv : Value) (An : Around) (outer : List Env) (s : Shared) (H : Hp) (E : XK) (hr : Room 1 (An.deeper (envOfC "_law_pick" (defScope s__law_pick) s.heap.objs.size T.a__law_pick cdv))) :
    PSs (cxOf (L2.CX P w) P w K mg base N__law_pick "_law_pick" (defScope s__law_pick) T.a__law_pick cdv An outer s H E) (defBody s__law_pick) (lowS K (WF E) r__law_pick) :=
  (s_one (s_ret (d_ix (dv 1) (d_call G__law_take (hr.mono (by decide)) T.m__law_take T.F__law_take.kp T.b__law_take tkF (da_cons (dv 0) (da_cons (d_callB call_len l_len T.n_len bt_len (da_cons (dv 1) da_nil)) da_nil))))))
theorem w__law_wide (T : Tx K mg A) (G__law_take : FnD P w K mg base 1 T.a__law_take T.fd__law_take [Str.ofString "_law_hand_here", Str.ofString "_law_many"] sp__law_take) (cdv : Value) (An : Around) (outer : List Env) (s : Shared) (H : Hp) (E : XK) (hr : Room 1 (An.deeper (envOfC "_law_wide" (defScope s__law_wide) s.heap.objs.size T.a__law_wide cdv))) :
    PSs (cxOf (L2.CX P w) P w K mg base N__law_wide "_law_wide" (defScope s__law_wide) T.a__law_wide cdv An outer s H E) (defBody s__law_wide) (lowS K (WF E) r__law_wide) :=
  (s_one (s_ret (d_op op_sub l_sub (d_op op_addA l_add (d_op op_mulA l_mul (d_call G__law_take (hr.mono (by decide)) T.m__law_take T.F__law_take.kp T.b__law_take tkF (da_cons (dv 0) (da_cons d_int da_nil))) d_int) (d_call G__law_take (hr.mono (by decide)) T.m__law_take T.F__law_take.kp T.b__law_take tkF (da_cons (dv 0) (da_cons d_int da_nil)))) d_int)))
theorem w__law_small (T : Tx K mg A) (G__law_take : FnD P w K mg base 1 T.a__law_take T.fd__law_take [Str.ofString "_law_hand_here", Str.ofString "_law_many"] sp__law_take) (G__law_pick : FnD P w K mg base 2 T.a__law_pick T.fd__law_pick [Str.ofString "_law_hand_here", Str.ofString "_law_things"] sp__law_pick) (G__law_wide : FnD P w K mg base 2 T.a__law_wide T.fd__law_wide [Str.ofString "_law_hand_here"] sp__law_wide) (cdv : Value) (An : Around) (outer : List Env) (s : Shared) (H : Hp) (E : XK) (hr : Room 2 (An.deeper (envOfC "_law_small" (defScope s__law_small) s.heap.objs.size T.a__law_small cdv))) :
    PSs (cxOf (L2.CX P w) P w K mg base N__law_small "_law_small" (defScope s__law_small) T.a__law_small cdv An outer s H E) (defBody s__law_small) (lowS K (WF E) r__law_small) :=
  (s_cons (s_set 1 sc__law_small.nd (d_call G__law_take (hr.mono (by decide)) T.m__law_take T.F__law_take.kp T.b__law_take tkF (da_cons (dv 0) (da_cons d_int da_nil))))
    (s_cons (s_if (t_cmp (op_eqA hr.units) l_eq (dv 1) d_int) (s_one (s_ret (d_call G__law_wide (hr.mono (by decide)) T.m__law_wide T.F__law_wide.kp T.b__law_wide tkF (da_cons (dv 0) da_nil)))) s_nil)
    (s_cons (s_if (t_cmp (op_eqA hr.units) l_eq (dv 1) d_int) (s_one (s_ret (d_call G__law_pick (hr.mono (by decide)) T.m__law_pick T.F__law_pick.kp T.b__law_pick tkF (da_cons (dv 0) (da_cons (d_lst (da_cons d_int (da_cons (d_neg d_int) (da_cons d_int (da_cons (d_neg d_int) (da_cons d_int (da_cons d_int (da_cons d_int (da_cons d_int (da_cons (d_neg d_int) da_nil)))))))))) da_nil))))) s_nil)
    (s_cons (s_if (t_cmp op_lt l_cmp (dv 1) d_int) (s_one (s_ret (d_op op_sub l_sub (d_call G__law_take (hr.mono (by decide)) T.m__law_take T.F__law_take.kp T.b__law_take tkF (da_cons (dv 0) (da_cons d_int da_nil))) d_int))) s_nil)
    (s_one (s_ret (d_op op_sub l_sub (d_call G__law_take (hr.mono (by decide)) T.m__law_take T.F__law_take.kp T.b__law_take tkF (da_cons (dv 0) (da_cons d_int da_nil))) d_int)))))))
theorem w__law_great (T : Tx K mg A) (G__law_take : FnD P w K mg base 1 T.a__law_take T.fd__law_take [Str.ofString "_law_hand_here", Str.ofString "_law_many"] sp__law_take) (cdv : Value) (An : Around) (outer : List Env) (s : Shared) (H : Hp) (E : XK) (hr : Room 1 (An.deeper (envOfC "_law_great" (defScope s__law_great) s.heap.objs.size T.a__law_great cdv))) :
    PSs (cxOf (L2.CX P w) P w K mg base N__law_great "_law_great" (defScope s__law_great) T.a__law_great cdv An outer s H E) (defBody s__law_great) (lowS K (WF E) r__law_great) :=
  (s_one (s_ret (d_op op_addA l_add (d_op op_mulA l_mul (d_op op_addA l_add (d_op op_mulA l_mul (d_call G__law_take (hr.mono (by decide)) T.m__law_take T.F__law_take.kp T.b__law_take tkF (da_cons (dv 0) (da_cons (d_op op_pow l_pow d_int d_int) da_nil))) (d_op op_pow l_pow d_int d_int)) (d_call G__law_take (hr.mono (by decide)) T.m__law_take T.F__law_take.kp T.b__law_take tkF (da_cons (dv 0) (da_cons (d_op op_pow l_pow d_int d_int) da_nil)))) (d_op op_pow l_pow d_int d_int)) (d_op op_addA l_add (d_op op_mulA l_mul (d_call G__law_take (hr.mono (by decide)) T.m__law_take T.F__law_take.kp T.b__law_take tkF (da_cons (dv 0) (da_cons (d_op op_pow l_pow d_int d_int) da_nil))) (d_op op_pow l_pow d_int d_int)) (d_call G__law_take (hr.mono (by decide)) T.m__law_take T.F__law_take.kp T.b__law_take tkF (da_cons (dv 0) (da_cons (d_op op_pow l_pow d_int d_int) da_nil)))))))
theorem w__law_seed (T : Tx K mg A) (G__law_take : FnD P w K mg base 1 T.a__law_take T.fd__law_take [Str.ofString "_law_hand_here", Str.ofString "_law_many"] sp__law_take) (G__law_pick : FnD P w K mg base 2 T.a__law_pick T.fd__law_pick [Str.ofString "_law_hand_here", Str.ofString "_law_things"] sp__law_pick) (cdv : Value) (An : Around) (outer : List Env) (s : Shared) (H : Hp) (E : XK) (hr : Room 2 (An.deeper (envOfC "_law_seed" (defScope s__law_seed) s.heap.objs.size T.a__law_seed cdv))) :
    PSs (cxOf (L2.CX P w) P w K mg base N__law_seed "_law_seed" (defScope s__law_seed) T.a__law_seed cdv An outer s H E) (defBody s__law_seed) (lowS K (WF E) r__law_seed) :=
  (s_cons (s_if (t_cmp (op_eqA hr.units) l_eq (d_call G__law_take (hr.mono (by decide)) T.m__law_take T.F__law_take.kp T.b__law_take tkF (da_cons (dv 0) (da_cons d_int da_nil))) d_int) (s_one (s_ret (d_call G__law_pick (hr.mono (by decide)) T.m__law_pick T.F__law_pick.kp T.b__law_pick tkF (da_cons (dv 0) (da_cons (d_lst (da_cons d_int (da_cons d_int (da_cons d_int (da_cons d_int (da_cons d_int da_nil)))))) da_nil))))) s_nil)
    (s_one (s_ret (d_op op_addA l_add d_int (d_op op_mod l_mod (d_callTy call_int1 l_int T.n_int bt_int (da_cons (d_op op_addA l_add (d_op op_mulA l_mul (d_call G__law_take (hr.mono (by decide)) T.m__law_take T.F__law_take.kp T.b__law_take tkF (da_cons (dv 0) (da_cons d_int da_nil))) d_int) (d_call G__law_take (hr.mono (by decide)) T.m__law_take T.F__law_take.kp T.b__law_take tkF (da_cons (dv 0) (da_cons d_int da_nil)))) da_nil)) d_int)))))
theorem w__law_is_integer (T : Tx K mg A) (cdv : Value) (An : Around) (outer : List Env) (s : Shared) (H : Hp) (E : XK) (hr : Room 0 (An.deeper (envOfC "_law_is_integer" (defScope s__law_is_integer) s.heap.objs.size T.a__law_is_integer cdv))) :
    PSs (cxOf (L2.CX P w) P w K mg base N__law_is_integer "_law_is_integer" (defScope s__law_is_integer) T.a__law_is_integer cdv An outer s H E) (defBody s__law_is_integer) (lowS K (WF E) r__law_is_integer) :=
  (s_one (s_ret (d_and (d_callB call_isiA l_isi T.n_isinstance bt_isinstance (da_cons (dv 0) (da_cons (d_ty T.n_int bt_int) da_nil))) (d_one (d_not (d_callB call_isiA l_isi T.n_isinstance bt_isinstance (da_cons (dv 0) (da_cons (d_ty T.n_bool bt_bool) da_nil))))))))
theorem w__law_is_within (T : Tx K mg A) (G__law_is_integer : FnD P w K mg base 1 T.a__law_is_integer T.fd__law_is_integer [Str.ofString "_law_thing"] sp__law_is_integer) (cdv : Value) (An : Around) (outer : List Env) (s : Shared) (H : Hp) (E : XK) (hr : Room 1 (An.deeper (envOfC "_law_is_within" (defScope s__law_is_within) s.heap.objs.size T.a__law_is_within cdv))) :
    PSs (cxOf (L2.CX P w) P w K mg base N__law_is_within "_law_is_within" (defScope s__law_is_within) T.a__law_is_within cdv An outer s H E) (defBody s__law_is_within) (lowS K (WF E) r__law_is_within) :=
  (s_one (s_ret (d_and (d_call G__law_is_integer (hr.mono (by decide)) T.m__law_is_integer T.F__law_is_integer.kp T.b__law_is_integer tkF (da_cons (dv 0) da_nil)) (d_and (d_cmp op_le l_cmp (dv 1) (dv 0)) (d_one (d_cmp op_le l_cmp (dv 0) (dv 2)))))))
theorem w__law_same (T : Tx K mg A) (G__law_is_integer : FnD P w K mg base 1 T.a__law_is_integer T.fd__law_is_integer [Str.ofString "_law_thing"] sp__law_is_integer) (j : Nat) (hj : 1 ≤ j) (sp_self : SpD) (G__law_same : FnD P w K mg base j T.a__law_same T.fd__law_same [Str.ofString "_law_actual", Str.ofString "_law_due"] sp_self) (cdv : Value) (An : Around) (outer : List Env) (s : Shared) (H : Hp) (E : XK) (hr : Room j (An.deeper (envOfC "_law_same" (defScope s__law_same) s.heap.objs.size T.a__law_same cdv))) :
    PSs (cxOf (L2.CX P w) P w K mg base N__law_same "_law_same" (defScope s__law_same) T.a__law_same cdv An outer s H E) (defBody s__law_same) (lowS K (WF E) (r__law_same sp_self)) :=
  (s_cons (s_if (t_cmp op_isN l_isN (dv 1) d_non) (s_one (s_ret (d_cmp op_isN l_isN (dv 0) d_non))) s_nil)
    (s_cons (s_if (t_cmp op_isBA l_isB (dv 1) d_bl) (s_one (s_ret (d_cmp op_isBA l_isB (dv 0) d_bl))) s_nil)
    (s_cons (s_if (t_cmp op_isBA l_isB (dv 1) d_bl) (s_one (s_ret (d_cmp op_isBA l_isB (dv 0) d_bl))) s_nil)
    (s_cons (s_if (t_val (d_callB call_isiA l_isi T.n_isinstance bt_isinstance (da_cons (dv 1) (da_cons (d_ty T.n_int bt_int) da_nil)))) (s_one (s_ret (d_and (d_call G__law_is_integer (hr.mono (Nat.le_trans (by decide) hj)) T.m__law_is_integer T.F__law_is_integer.kp T.b__law_is_integer tkF (da_cons (dv 0) da_nil)) (d_one (d_cmp (op_eqA hr.units) l_eq (dv 0) (dv 1)))))) s_nil)
    (s_cons (s_if (t_val (d_callB call_isiA l_isi T.n_isinstance bt_isinstance (da_cons (dv 1) (da_cons (d_ty T.n_str bt_str) da_nil)))) (s_one (s_ret (d_and (d_callB call_isiA l_isi T.n_isinstance bt_isinstance (da_cons (dv 0) (da_cons (d_ty T.n_str bt_str) da_nil))) (d_one (d_cmp (op_eqA hr.units) l_eq (dv 0) (dv 1)))))) s_nil)
    (s_cons (s_if (PW.pt (t_or (t_cmp (op_neA hr.units) l_eq (d_callB call_isiA l_isi T.n_isinstance bt_isinstance (da_cons (dv 1) (da_cons (d_ty T.n_tuple bt_tuple) da_nil))) (d_callB call_isiA l_isi T.n_isinstance bt_isinstance (da_cons (dv 0) (da_cons (d_ty T.n_tuple bt_tuple) da_nil)))) (t_or1 (t_cmp (op_neA hr.units) l_eq (d_callB call_isiA l_isi T.n_isinstance bt_isinstance (da_cons (dv 1) (da_cons (d_ty T.n_list bt_list) da_nil))) (d_callB call_isiA l_isi T.n_isinstance bt_isinstance (da_cons (dv 0) (da_cons (d_ty T.n_list bt_list) da_nil))))))) (s_one (s_ret d_bl)) s_nil)
    (s_cons (s_if (t_cmp (op_neA hr.units) l_eq (d_callB call_len l_len T.n_len bt_len (da_cons (dv 0) da_nil)) (d_callB call_len l_len T.n_len bt_len (da_cons (dv 1) da_nil))) (s_one (s_ret d_bl)) s_nil)
    (s_cons (s_for (passes_of rfl) rfl (i_zip T.n_zip (da_cons (dv 0) (da_cons (dv 1) da_nil))) (g_tup (n := 2) rfl (g_cons (g_name 2 sc__law_same.nd) (g_cons (g_name 3 sc__law_same.nd) g_nil))) (s_one (s_if (t_not (t_val (d_call G__law_same hr T.m__law_same T.F__law_same.kp T.b__law_same tkF (da_cons (dv 2) (da_cons (dv 3) da_nil))))) (s_one (s_ret d_bl)) s_nil)))
    (s_one (s_ret d_bl))))))))))
theorem w__law_odd (T : Tx K mg A) (G__law_take : FnD P w K mg base 1 T.a__law_take T.fd__law_take [Str.ofString "_law_hand_here", Str.ofString "_law_many"] sp__law_take) (cdv : Value) (An : Around) (outer : List Env) (s : Shared) (H : Hp) (E : XK) (hr : Room 1 (An.deeper (envOfC "_law_odd" (defScope s__law_odd) s.heap.objs.size T.a__law_odd cdv))) :
    PSs (cxOf (L2.CX P w) P w K mg base N__law_odd "_law_odd" (defScope s__law_odd) T.a__law_odd cdv An outer s H E) (defBody s__law_odd) (lowS K (WF E) r__law_odd) :=
  (s_cons (s_set 1 sc__law_odd.nd (d_call G__law_take (hr.mono (by decide)) T.m__law_take T.F__law_take.kp T.b__law_take tkF (da_cons (dv 0) (da_cons d_int da_nil))))
    (s_cons (s_if (t_cmp op_lt l_cmp (dv 1) d_int) (s_one (s_ret (d_ix (d_lst (da_cons d_non (da_cons d_bl (da_cons d_bl (da_cons d_str (da_cons d_str (da_cons d_str da_nil))))))) (dv 1)))) s_nil)
    (s_cons (s_if (t_cmp op_lt l_cmp (dv 1) d_int) (s_one (s_ret (d_ix (d_lst (da_cons (d_tup da_nil) (da_cons (d_lst da_nil) (da_cons d_dict0 (da_cons (d_tup (da_cons d_int da_nil)) (da_cons (d_lst (da_cons d_int da_nil)) (da_cons (d_tup (da_cons (d_tup da_nil) da_nil)) da_nil))))))) (d_op op_sub l_sub (dv 1) d_int)))) s_nil)
    (s_cons (s_if (t_cmp op_lt l_cmp (dv 1) d_int) (s_one (s_ret (d_ix (d_lst (da_cons (d_neg d_int) (da_cons d_int (da_cons (d_neg d_int) (da_cons (d_op op_sub l_sub (d_op op_pow l_pow d_int d_int) d_int) (da_cons (d_op op_sub l_sub d_int (d_op op_pow l_pow d_int d_int)) (da_cons d_int da_nil))))))) (d_op op_sub l_sub (dv 1) d_int)))) s_nil)
    (s_cons (s_if (t_cmp (op_eqA hr.units) l_eq (dv 1) d_int) (s_one (s_ret (d_lst (da_cons (d_op op_mulS l_mulS d_str d_int) (da_cons (d_tup (da_cons d_non (da_cons d_int da_nil))) da_nil))))) s_nil)
    (s_one (s_ret (d_dict1 d_str (d_tup da_nil)))))))))
theorem w__law_power (T : Tx K mg A) (cdv : Value) (An : Around) (outer : List Env) (s : Shared) (H : Hp) (E : XK) (hr : Room 0 (An.deeper (envOfC "_law_power" (defScope s__law_power) s.heap.objs.size T.a__law_power cdv))) :
    PSs (cxOf (L2.CX P w) P w K mg base N__law_power "_law_power" (defScope s__law_power) T.a__law_power cdv An outer s H E) (defBody s__law_power) (lowS K (WF E) r__law_power) :=
  (s_cons (s_set 1 sc__law_power.nd d_int)
    (s_cons (s_for (passes_of rfl) rfl (i_str (d_callTy call_str_int l_strI T.n_str bt_str (da_cons (dv 0) da_nil))) (g_name 2 sc__law_power.nd) (s_cons (s_set 3 sc__law_power.nd (d_op op_mod l_mod (d_callTy call_int1 l_int T.n_int bt_int (da_cons (d_op op_mulA l_mul (dv 1) (dv 1)) da_nil)) d_int))
    (s_cons (s_set 4 sc__law_power.nd (d_op op_mod l_mod (d_callTy call_int1 l_int T.n_int bt_int (da_cons (d_op op_mulA l_mul (dv 3) (dv 3)) da_nil)) d_int))
    (s_cons (s_set 5 sc__law_power.nd (d_op op_mod l_mod (d_callTy call_int1 l_int T.n_int bt_int (da_cons (d_op op_mulA l_mul (dv 4) (dv 4)) da_nil)) d_int))
    (s_cons (s_set 1 sc__law_power.nd (d_op op_mod l_mod (d_callTy call_int1 l_int T.n_int bt_int (da_cons (d_op op_mulA l_mul (dv 5) (dv 3)) da_nil)) d_int))
    (s_one (s_for (passes_of rfl) rfl (i_r1 T.n_range (da_cons (d_callTy call_int_str l_intS T.n_int bt_int (da_cons (dv 2) da_nil)) da_nil)) (g_name 6 sc__law_power.nd) (s_one (s_set 1 sc__law_power.nd (d_op op_mod l_mod (d_callTy call_int1 l_int T.n_int bt_int (da_cons (d_op op_mulA l_mul (dv 1) d_int) da_nil)) d_int))))))))))
    (s_one (s_ret (dv 1)))))
theorem w__law_wrapped (T : Tx K mg A) (G_wrapped : FnD P w K mg base 3 T.a_wrapped T.fd_wrapped [Str.ofString "number"] (sp_wrapped A.NoNumber)) (cdv : Value) (An : Around) (outer : List Env) (s : Shared) (H : Hp) (E : XK) (hr : Room 3 (An.deeper (envOfC "_law_wrapped" (defScope s__law_wrapped) s.heap.objs.size T.a__law_wrapped cdv))) :
    PSs (cxOf (L2.CX P w) P w K mg base N__law_wrapped "_law_wrapped" (defScope s__law_wrapped) T.a__law_wrapped cdv An outer s H E) (defBody s__law_wrapped) (lowS K (WF E) (r__law_wrapped A.NoNumber)) :=
  (s_one (s_try tkF (fun W2 pn2 xe2 tk2 => (s_one (s_ret (d_tup (da_cons d_str (da_cons (d_call G_wrapped (hr.mono (by decide)) T.m_wrapped T.F_wrapped.kp T.b_wrapped tk2 (da_cons (dv 0) da_nil)) da_nil)))))) (.cons (nm_own T.m_NoNumber) (tabs_cons T.e_NoNumber_NoNumber tabs_nil) (fun _ _ => (s_one (s_ret (d_tup (da_cons d_str da_nil))))) .nil)))
theorem w__law_next (T : Tx K mg A) (G_next_seed : FnD P w K mg base 5 T.a_next_seed T.fd_next_seed [Str.ofString "seed"] (sp_next_seed A.NoSeed)) (cdv : Value) (An : Around) (outer : List Env) (s : Shared) (H : Hp) (E : XK) (hr : Room 5 (An.deeper (envOfC "_law_next" (defScope s__law_next) s.heap.objs.size T.a__law_next cdv))) :
    PSs (cxOf (L2.CX P w) P w K mg base N__law_next "_law_next" (defScope s__law_next) T.a__law_next cdv An outer s H E) (defBody s__law_next) (lowS K (WF E) (r__law_next A.NoSeed)) :=
  (s_one (s_try tkF (fun W2 pn2 xe2 tk2 => (s_one (s_ret (d_tup (da_cons d_str (da_cons (d_call G_next_seed (hr.mono (by decide)) T.m_next_seed T.F_next_seed.kp T.b_next_seed tk2 (da_cons (dv 0) da_nil)) da_nil)))))) (.cons (nm_own T.m_NoSeed) (tabs_cons T.e_NoSeed_NoSeed tabs_nil) (fun _ _ => (s_one (s_ret (d_tup (da_cons d_str da_nil))))) .nil)))
theorem w__law_after (T : Tx K mg A) (G_seed_after : FnD P w K mg base 5 T.a_seed_after T.fd_seed_after [Str.ofString "seed", Str.ofString "many"] (sp_seed_after A.NoNumber A.NoSeed)) (cdv : Value) (An : Around) (outer : List Env) (s : Shared) (H : Hp) (E : XK) (hr : Room 5 (An.deeper (envOfC "_law_after" (defScope s__law_after) s.heap.objs.size T.a__law_after cdv))) :
    PSs (cxOf (L2.CX P w) P w K mg base N__law_after "_law_after" (defScope s__law_after) T.a__law_after cdv An outer s H E) (defBody s__law_after) (lowS K (WF E) (r__law_after A.NoNumber A.NoSeed)) :=
  (s_one (s_try tkF (fun W2 pn2 xe2 tk2 => (s_one (s_ret (d_tup (da_cons d_str (da_cons (d_call G_seed_after (hr.mono (by decide)) T.m_seed_after T.F_seed_after.kp T.b_seed_after tk2 (da_cons (dv 0) (da_cons (dv 1) da_nil))) da_nil)))))) (.cons (nm_own T.m_NoSeed) (tabs_cons T.e_NoNumber_NoSeed (tabs_cons T.e_NoSeed_NoSeed tabs_nil)) (fun _ _ => (s_one (s_ret (d_tup (da_cons d_str da_nil))))) (.cons (nm_own T.m_NoNumber) (tabs_cons T.e_NoNumber_NoNumber (tabs_cons T.e_NoSeed_NoNumber tabs_nil)) (fun _ _ => (s_one (s_ret (d_tup (da_cons d_str da_nil))))) .nil))))
theorem w__law_drawn (T : Tx K mg A) (G_drawn : FnD P w K mg base 5 T.a_drawn T.fd_drawn [Str.ofString "seed", Str.ofString "below"] (sp_drawn A.NoNumber A.NoSeed)) (cdv : Value) (An : Around) (outer : List Env) (s : Shared) (H : Hp) (E : XK) (hr : Room 5 (An.deeper (envOfC "_law_drawn" (defScope s__law_drawn) s.heap.objs.size T.a__law_drawn cdv))) :
    PSs (cxOf (L2.CX P w) P w K mg base N__law_drawn "_law_drawn" (defScope s__law_drawn) T.a__law_drawn cdv An outer s H E) (defBody s__law_drawn) (lowS K (WF E) (r__law_drawn A.NoNumber A.NoSeed)) :=
  (s_one (s_try tkF (fun W2 pn2 xe2 tk2 => (s_one (s_ret (d_tup (da_cons d_str (da_cons (d_call G_drawn (hr.mono (by decide)) T.m_drawn T.F_drawn.kp T.b_drawn tk2 (da_cons (dv 0) (da_cons (dv 1) da_nil))) da_nil)))))) (.cons (nm_own T.m_NoSeed) (tabs_cons T.e_NoNumber_NoSeed (tabs_cons T.e_NoSeed_NoSeed tabs_nil)) (fun _ _ => (s_one (s_ret (d_tup (da_cons d_str da_nil))))) (.cons (nm_own T.m_NoNumber) (tabs_cons T.e_NoNumber_NoNumber (tabs_cons T.e_NoSeed_NoNumber tabs_nil)) (fun _ _ => (s_one (s_ret (d_tup (da_cons d_str da_nil))))) .nil))))
theorem w__law_due_wrapped (T : Tx K mg A) (G__law_is_integer : FnD P w K mg base 1 T.a__law_is_integer T.fd__law_is_integer [Str.ofString "_law_thing"] sp__law_is_integer) (cdv : Value) (An : Around) (outer : List Env) (s : Shared) (H : Hp) (E : XK) (hr : Room 1 (An.deeper (envOfC "_law_due_wrapped" (defScope s__law_due_wrapped) s.heap.objs.size T.a__law_due_wrapped cdv))) :
    PSs (cxOf (L2.CX P w) P w K mg base N__law_due_wrapped "_law_due_wrapped" (defScope s__law_due_wrapped) T.a__law_due_wrapped cdv An outer s H E) (defBody s__law_due_wrapped) (lowS K (WF E) r__law_due_wrapped) :=
  (s_cons (s_if (t_not (t_val (d_call G__law_is_integer (hr.mono (by decide)) T.m__law_is_integer T.F__law_is_integer.kp T.b__law_is_integer tkF (da_cons (dv 0) da_nil)))) (s_one (s_ret (d_tup (da_cons d_str da_nil)))) s_nil)
    (s_one (s_ret (d_tup (da_cons d_str (da_cons (d_op op_sub l_sub (dv 0) (d_op op_mulA l_mul d_int (d_op op_divP l_div (d_op op_addA l_add (dv 0) d_int) d_int))) da_nil))))))
theorem w__law_due_after (T : Tx K mg A) (G__law_is_integer : FnD P w K mg base 1 T.a__law_is_integer T.fd__law_is_integer [Str.ofString "_law_thing"] sp__law_is_integer) (G__law_is_within : FnD P w K mg base 2 T.a__law_is_within T.fd__law_is_within [Str.ofString "_law_thing", Str.ofString "_law_least", Str.ofString "_law_most"] sp__law_is_within) (G__law_power : FnD P w K mg base 1 T.a__law_power T.fd__law_power [Str.ofString "_law_many"] sp__law_power) (cdv : Value) (An : Around) (outer : List Env) (s : Shared) (H : Hp) (E : XK) (hr : Room 2 (An.deeper (envOfC "_law_due_after" (defScope s__law_due_after) s.heap.objs.size T.a__law_due_after cdv))) :
    PSs (cxOf (L2.CX P w) P w K mg base N__law_due_after "_law_due_after" (defScope s__law_due_after) T.a__law_due_after cdv An outer s H E) (defBody s__law_due_after) (lowS K (WF E) r__law_due_after) :=
  (s_cons (s_if (t_not (t_val (d_call G__law_is_within (hr.mono (by decide)) T.m__law_is_within T.F__law_is_within.kp T.b__law_is_within tkF (da_cons (dv 0) (da_cons d_int (da_cons d_int da_nil)))))) (s_one (s_ret (d_tup (da_cons d_str da_nil)))) s_nil)
    (s_cons (s_if (PW.pt (t_or (t_not (t_val (d_call G__law_is_integer (hr.mono (by decide)) T.m__law_is_integer T.F__law_is_integer.kp T.b__law_is_integer tkF (da_cons (dv 1) da_nil)))) (t_or1 (t_cmp op_lt l_cmp (dv 1) d_int)))) (s_one (s_ret (d_tup (da_cons d_str da_nil)))) s_nil)
    (s_one (s_ret (d_tup (da_cons d_str (da_cons (d_op op_mod l_mod (d_callTy call_int1 l_int T.n_int bt_int (da_cons (d_op op_mulA l_mul (dv 0) (d_call G__law_power (hr.mono (by decide)) T.m__law_power T.F__law_power.kp T.b__law_power tkF (da_cons (dv 1) da_nil))) da_nil)) d_int) da_nil)))))))
theorem w__law_due_drawn (T : Tx K mg A) (G__law_is_within : FnD P w K mg base 2 T.a__law_is_within T.fd__law_is_within [Str.ofString "_law_thing", Str.ofString "_law_least", Str.ofString "_law_most"] sp__law_is_within) (cdv : Value) (An : Around) (outer : List Env) (s : Shared) (H : Hp) (E : XK) (hr : Room 2 (An.deeper (envOfC "_law_due_drawn" (defScope s__law_due_drawn) s.heap.objs.size T.a__law_due_drawn cdv))) :
    PSs (cxOf (L2.CX P w) P w K mg base N__law_due_drawn "_law_due_drawn" (defScope s__law_due_drawn) T.a__law_due_drawn cdv An outer s H E) (defBody s__law_due_drawn) (lowS K (WF E) r__law_due_drawn) :=
  (s_cons (s_if (t_not (t_val (d_call G__law_is_within (hr.mono (by decide)) T.m__law_is_within T.F__law_is_within.kp T.b__law_is_within tkF (da_cons (dv 0) (da_cons d_int (da_cons d_int da_nil)))))) (s_one (s_ret (d_tup (da_cons d_str da_nil)))) s_nil)
    (s_cons (s_if (t_not (t_val (d_call G__law_is_within (hr.mono (by decide)) T.m__law_is_within T.F__law_is_within.kp T.b__law_is_within tkF (da_cons (dv 1) (da_cons (d_neg d_int) (da_cons d_int da_nil)))))) (s_one (s_ret (d_tup (da_cons d_str da_nil)))) s_nil)
    (s_cons (s_if (t_cmp op_lt l_cmp (dv 1) d_int) (s_one (s_ret (d_tup (da_cons d_str (da_cons (d_tup (da_cons d_int (da_cons (dv 0) da_nil))) da_nil))))) s_nil)
    (s_cons (s_set 2 sc__law_due_drawn.nd (d_op op_mod l_mod (d_callTy call_int1 l_int T.n_int bt_int (da_cons (d_op op_mulA l_mul (dv 0) d_int) da_nil)) d_int))
    (s_one (s_ret (d_tup (da_cons d_str (da_cons (d_tup (da_cons (d_op op_mod l_mod (d_callTy call_int1 l_int T.n_int bt_int (da_cons (d_op op_divP l_div (dv 2) d_int) da_nil)) (dv 1)) (da_cons (dv 2) da_nil))) da_nil)))))))))
theorem w__law_some (T : Tx K mg A) (G__law_take : FnD P w K mg base 1 T.a__law_take T.fd__law_take [Str.ofString "_law_hand_here", Str.ofString "_law_many"] sp__law_take) (G__law_pick : FnD P w K mg base 2 T.a__law_pick T.fd__law_pick [Str.ofString "_law_hand_here", Str.ofString "_law_things"] sp__law_pick) (G__law_odd : FnD P w K mg base 2 T.a__law_odd T.fd__law_odd [Str.ofString "_law_hand_here"] sp__law_odd) (cdv : Value) (An : Around) (outer : List Env) (s : Shared) (H : Hp) (E : XK) (hr : Room 2 (An.deeper (envOfC "_law_some" (defScope s__law_some) s.heap.objs.size T.a__law_some cdv))) :
    PSs (cxOf (L2.CX P w) P w K mg base N__law_some "_law_some" (defScope s__law_some) T.a__law_some cdv An outer s H E) (defBody s__law_some) (lowS K (WF E) r__law_some) :=
  (s_cons (s_if (t_cmp (op_eqA hr.units) l_eq (d_call G__law_take (hr.mono (by decide)) T.m__law_take T.F__law_take.kp T.b__law_take tkF (da_cons (dv 0) (da_cons d_int da_nil))) d_int) (s_one (s_ret (d_call G__law_pick (hr.mono (by decide)) T.m__law_pick T.F__law_pick.kp T.b__law_pick tkF (da_cons (dv 0) (da_cons (d_lst (da_cons (d_call G__law_odd (hr.mono (by decide)) T.m__law_odd T.F__law_odd.kp T.b__law_odd tkF (da_cons (dv 0) da_nil)) (da_cons d_int (da_cons d_int (da_cons d_int (da_cons (d_neg d_int) (da_cons (d_neg d_int) (da_cons (d_neg d_int) da_nil)))))))) da_nil))))) s_nil)
    (s_one (s_ret (dv 1))))
theorem w__law_chained (T : Tx K mg A) (G_next_seed : FnD P w K mg base 5 T.a_next_seed T.fd_next_seed [Str.ofString "seed"] (sp_next_seed A.NoSeed)) (cdv : Value) (An : Around) (outer : List Env) (s : Shared) (H : Hp) (E : XK) (hr : Room 5 (An.deeper (envOfC "_law_chained" (defScope s__law_chained) s.heap.objs.size T.a__law_chained cdv))) :
    PSs (cxOf (L2.CX P w) P w K mg base N__law_chained "_law_chained" (defScope s__law_chained) T.a__law_chained cdv An outer s H E) (defBody s__law_chained) (lowS K (WF E) (r__law_chained A.NoSeed)) :=
  (s_cons (s_set 2 sc__law_chained.nd (dv 0))
    (s_cons (s_for (passes_of rfl) rfl (i_r1 T.n_range (da_cons (dv 1) da_nil)) (g_name 3 sc__law_chained.nd) (s_one (s_set 2 sc__law_chained.nd (d_call G_next_seed (hr.mono (by decide)) T.m_next_seed T.F_next_seed.kp T.b_next_seed tkF (da_cons (dv 2) da_nil)))))
    (s_one (s_ret (dv 2)))))
theorem w_law (T : Tx K mg A) (G_seed_after : FnD P w K mg base 5 T.a_seed_after T.fd_seed_after [Str.ofString "seed", Str.ofString "many"] (sp_seed_after A.NoNumber A.NoSeed)) (G__law_hand : FnD P w K mg base 1 T.a__law_hand T.fd__law_hand [Str.ofString "_law_script"] sp__law_hand) (G__law_take : FnD P w K mg base 1 T.a__law_take T.fd__law_take [Str.ofString "_law_hand_here", Str.ofString "_law_many"] sp__law_take) (G__law_small : FnD P w K mg base 3 T.a__law_small T.fd__law_small [Str.ofString "_law_hand_here"] sp__law_small) (G__law_great : FnD P w K mg base 2 T.a__law_great T.fd__law_great [Str.ofString "_law_hand_here"] sp__law_great) (G__law_seed : FnD P w K mg base 3 T.a__law_seed T.fd__law_seed [Str.ofString "_law_hand_here"] sp__law_seed) (G__law_same : FnD P w K mg base 5 T.a__law_same T.fd__law_same [Str.ofString "_law_actual", Str.ofString "_law_due"] (sp__law_same 4)) (G__law_power : FnD P w K mg base 1 T.a__law_power T.fd__law_power [Str.ofString "_law_many"] sp__law_power) (G__law_wrapped : FnD P w K mg base 4 T.a__law_wrapped T.fd__law_wrapped [Str.ofString "_law_thing"] (sp__law_wrapped A.NoNumber)) (G__law_next : FnD P w K mg base 6 T.a__law_next T.fd__law_next [Str.ofString "_law_thing"] (sp__law_next A.NoSeed)) (G__law_after : FnD P w K mg base 6 T.a__law_after T.fd__law_after [Str.ofString "_law_seed_here", Str.ofString "_law_many"] (sp__law_after A.NoNumber A.NoSeed)) (G__law_drawn : FnD P w K mg base 6 T.a__law_drawn T.fd__law_drawn [Str.ofString "_law_seed_here", Str.ofString "_law_below"] (sp__law_drawn A.NoNumber A.NoSeed)) (G__law_due_wrapped : FnD P w K mg base 2 T.a__law_due_wrapped T.fd__law_due_wrapped [Str.ofString "_law_thing"] sp__law_due_wrapped) (G__law_due_after : FnD P w K mg base 3 T.a__law_due_after T.fd__law_due_after [Str.ofString "_law_seed_here", Str.ofString "_law_many"] sp__law_due_after) (G__law_due_drawn : FnD P w K mg base 3 T.a__law_due_drawn T.fd__law_due_drawn [Str.ofString "_law_seed_here", Str.ofString "_law_below"] sp__law_due_drawn) (G__law_some : FnD P w K mg base 3 T.a__law_some T.fd__law_some [Str.ofString "_law_hand_here", Str.ofString "_law_right"] sp__law_some) (G__law_chained : FnD P w K mg base 6 T.a__law_chained T.fd__law_chained [Str.ofString "_law_seed_here", Str.ofString "_law_many"] (sp__law_chained A.NoSeed)) (cdv : Value) (An : Around) (outer : List Env) (s : Shared) (H : Hp) (E : XK) (hr : Room 6 (An.deeper (envOfC "law" (defScope s_law) s.heap.objs.size T.a_law cdv))) :
    PSs (cxOf (L2.CX P w) P w K mg base N_law "law" (defScope s_law) T.a_law cdv An outer s H E) (defBody s_law) (lowS K (WF E) (r_law A.NoNumber A.NoSeed)) :=
  (s_cons (s_set 1 sc_law.nd (d_call G__law_hand (hr.mono (by decide)) T.m__law_hand T.F__law_hand.kp T.b__law_hand tkF (da_cons (dv 0) da_nil)))
    (s_cons (s_for (passes_of rfl) rfl (i_r1 T.n_range (da_cons d_int da_nil)) (g_name 2 sc_law.nd) (s_cons (s_set 3 sc_law.nd (d_call G__law_some (hr.mono (by decide)) T.m__law_some T.F__law_some.kp T.b__law_some tkF (da_cons (dv 1) (da_cons (d_op op_divP l_div (d_op op_mulA l_mul (d_call G__law_great (hr.mono (by decide)) T.m__law_great T.F__law_great.kp T.b__law_great tkF (da_cons (dv 1) da_nil)) (d_op op_sub l_sub d_int (d_op op_mulA l_mul d_int (d_call G__law_take (hr.mono (by decide)) T.m__law_take T.F__law_take.kp T.b__law_take tkF (da_cons (dv 1) (da_cons d_int da_nil)))))) (d_ix (d_lst (da_cons d_int (da_cons (d_op op_pow l_pow d_int d_int) (da_cons (d_op op_pow l_pow d_int d_int) da_nil)))) (dv 2))) da_nil))))
    (s_cons (s_if (t_not (t_val (d_call G__law_same (hr.mono (by decide)) T.m__law_same T.F__law_same.kp T.b__law_same tkF (da_cons (d_call G__law_wrapped (hr.mono (by decide)) T.m__law_wrapped T.F__law_wrapped.kp T.b__law_wrapped tkF (da_cons (dv 3) da_nil)) (da_cons (d_call G__law_due_wrapped (hr.mono (by decide)) T.m__law_due_wrapped T.F__law_due_wrapped.kp T.b__law_due_wrapped tkF (da_cons (dv 3) da_nil)) da_nil))))) (s_one (s_ret d_bl)) s_nil)
    (s_cons (s_set 4 sc_law.nd (d_call G__law_some (hr.mono (by decide)) T.m__law_some T.F__law_some.kp T.b__law_some tkF (da_cons (dv 1) (da_cons (d_call G__law_seed (hr.mono (by decide)) T.m__law_seed T.F__law_seed.kp T.b__law_seed tkF (da_cons (dv 1) da_nil)) da_nil))))
    (s_cons (s_set 5 sc_law.nd (d_call G__law_some (hr.mono (by decide)) T.m__law_some T.F__law_some.kp T.b__law_some tkF (da_cons (dv 1) (da_cons (d_op op_divP l_div (d_call G__law_great (hr.mono (by decide)) T.m__law_great T.F__law_great.kp T.b__law_great tkF (da_cons (dv 1) da_nil)) (d_ix (d_lst (da_cons d_int (da_cons (d_op op_pow l_pow d_int d_int) (da_cons (d_op op_pow l_pow d_int d_int) da_nil)))) (d_call G__law_take (hr.mono (by decide)) T.m__law_take T.F__law_take.kp T.b__law_take tkF (da_cons (dv 1) (da_cons d_int da_nil))))) da_nil))))
    (s_cons (s_set 6 sc_law.nd (d_call G__law_some (hr.mono (by decide)) T.m__law_some T.F__law_some.kp T.b__law_some tkF (da_cons (dv 1) (da_cons (d_call G__law_small (hr.mono (by decide)) T.m__law_small T.F__law_small.kp T.b__law_small tkF (da_cons (dv 1) da_nil)) da_nil))))
    (s_cons (s_set 7 sc_law.nd (d_call G__law_due_after (hr.mono (by decide)) T.m__law_due_after T.F__law_due_after.kp T.b__law_due_after tkF (da_cons (dv 4) (da_cons d_int da_nil))))
    (s_cons (s_if (t_not (t_val (d_call G__law_same (hr.mono (by decide)) T.m__law_same T.F__law_same.kp T.b__law_same tkF (da_cons (d_call G__law_next (hr.mono (by decide)) T.m__law_next T.F__law_next.kp T.b__law_next tkF (da_cons (dv 4) da_nil)) (da_cons (dv 7) da_nil))))) (s_one (s_ret d_bl)) s_nil)
    (s_cons (s_if (t_not (t_val (d_call G__law_same (hr.mono (by decide)) T.m__law_same T.F__law_same.kp T.b__law_same tkF (da_cons (d_call G__law_after (hr.mono (by decide)) T.m__law_after T.F__law_after.kp T.b__law_after tkF (da_cons (dv 4) (da_cons (dv 5) da_nil))) (da_cons (d_call G__law_due_after (hr.mono (by decide)) T.m__law_due_after T.F__law_due_after.kp T.b__law_due_after tkF (da_cons (dv 4) (da_cons (dv 5) da_nil))) da_nil))))) (s_one (s_ret d_bl)) s_nil)
    (s_one (s_if (t_not (t_val (d_call G__law_same (hr.mono (by decide)) T.m__law_same T.F__law_same.kp T.b__law_same tkF (da_cons (d_call G__law_drawn (hr.mono (by decide)) T.m__law_drawn T.F__law_drawn.kp T.b__law_drawn tkF (da_cons (dv 4) (da_cons (dv 6) da_nil))) (da_cons (d_call G__law_due_drawn (hr.mono (by decide)) T.m__law_due_drawn T.F__law_due_drawn.kp T.b__law_due_drawn tkF (da_cons (dv 4) (da_cons (dv 6) da_nil))) da_nil))))) (s_one (s_ret d_bl)) s_nil)))))))))))
    (s_cons (s_set 4 sc_law.nd (d_call G__law_seed (hr.mono (by decide)) T.m__law_seed T.F__law_seed.kp T.b__law_seed tkF (da_cons (dv 1) da_nil)))
    (s_cons (s_set 8 sc_law.nd (d_op op_divP l_div (d_call G__law_great (hr.mono (by decide)) T.m__law_great T.F__law_great.kp T.b__law_great tkF (da_cons (dv 1) da_nil)) d_int))
    (s_cons (s_set 9 sc_law.nd (d_op op_divP l_div (d_call G__law_great (hr.mono (by decide)) T.m__law_great T.F__law_great.kp T.b__law_great tkF (da_cons (dv 1) da_nil)) d_int))
    (s_cons (s_set 10 sc_law.nd (d_call G__law_take (hr.mono (by decide)) T.m__law_take T.F__law_take.kp T.b__law_take tkF (da_cons (dv 1) (da_cons d_int da_nil))))
    (s_cons (s_if (t_not (t_val (d_call G__law_same (hr.mono (by decide)) T.m__law_same T.F__law_same.kp T.b__law_same tkF (da_cons (d_call G_seed_after (hr.mono (by decide)) T.m_seed_after T.F_seed_after.kp T.b_seed_after tkF (da_cons (d_call G_seed_after (hr.mono (by decide)) T.m_seed_after T.F_seed_after.kp T.b_seed_after tkF (da_cons (dv 4) (da_cons (dv 8) da_nil))) (da_cons (dv 9) da_nil))) (da_cons (d_op op_mod l_mod (d_callTy call_int1 l_int T.n_int bt_int (da_cons (d_op op_mulA l_mul (dv 4) (d_call G__law_power (hr.mono (by decide)) T.m__law_power T.F__law_power.kp T.b__law_power tkF (da_cons (d_op op_addA l_add (dv 8) (dv 9)) da_nil))) da_nil)) d_int) da_nil))))) (s_one (s_ret d_bl)) s_nil)
    (s_cons (s_if (t_not (t_val (d_call G__law_same (hr.mono (by decide)) T.m__law_same T.F__law_same.kp T.b__law_same tkF (da_cons (d_call G_seed_after (hr.mono (by decide)) T.m_seed_after T.F_seed_after.kp T.b_seed_after tkF (da_cons (dv 4) (da_cons (d_op op_addA l_add (dv 8) (dv 9)) da_nil))) (da_cons (d_op op_mod l_mod (d_callTy call_int1 l_int T.n_int bt_int (da_cons (d_op op_mulA l_mul (dv 4) (d_call G__law_power (hr.mono (by decide)) T.m__law_power T.F__law_power.kp T.b__law_power tkF (da_cons (d_op op_addA l_add (dv 8) (dv 9)) da_nil))) da_nil)) d_int) da_nil))))) (s_one (s_ret d_bl)) s_nil)
    (s_cons (s_if (t_not (t_val (d_call G__law_same (hr.mono (by decide)) T.m__law_same T.F__law_same.kp T.b__law_same tkF (da_cons (d_call G__law_chained (hr.mono (by decide)) T.m__law_chained T.F__law_chained.kp T.b__law_chained tkF (da_cons (dv 4) (da_cons (dv 10) da_nil))) (da_cons (d_call G_seed_after (hr.mono (by decide)) T.m_seed_after T.F_seed_after.kp T.b_seed_after tkF (da_cons (dv 4) (da_cons (dv 10) da_nil))) da_nil))))) (s_one (s_ret d_bl)) s_nil)
    (s_one (s_ret (d_and (d_call G__law_same (hr.mono (by decide)) T.m__law_same T.F__law_same.kp T.b__law_same tkF (da_cons (d_call G_seed_after (hr.mono (by decide)) T.m_seed_after T.F_seed_after.kp T.b_seed_after tkF (da_cons (dv 4) (da_cons d_int da_nil))) (da_cons (dv 4) da_nil))) (d_one (d_call G__law_same (hr.mono (by decide)) T.m__law_same T.F__law_same.kp T.b__law_same tkF (da_cons (d_call G_seed_after (hr.mono (by decide)) T.m_seed_after T.F_seed_after.kp T.b_seed_after tkF (da_cons (dv 4) (da_cons d_int da_nil))) (da_cons (dv 4) da_nil))))))))))))))))
theorem all_mk_ok (T : Tx K mg A) : FnD P w K mg base 7 T.a_law T.fd_law ["_law_script"] spLaw := by
  have G_is_integer : FnD P w K mg base 1 T.a_is_integer T.fd_is_integer [Str.ofString "thing"] sp_is_integer := okD T.F_is_integer sc_is_integer len_is_integer _ (fun cdv An outer s H E hr => w_is_integer T  cdv An outer s H E hr) rd_is_integer
  have G_is_within : FnD P w K mg base 2 T.a_is_within T.fd_is_within [Str.ofString "thing", Str.ofString "least", Str.ofString "most"] sp_is_within := okD T.F_is_within sc_is_within len_is_within _ (fun cdv An outer s H E hr => w_is_within T G_is_integer cdv An outer s H E hr) rd_is_within
  have G_is_seed : FnD P w K mg base 3 T.a_is_seed T.fd_is_seed [Str.ofString "thing"] sp_is_seed := okD T.F_is_seed sc_is_seed len_is_seed _ (fun cdv An outer s H E hr => w_is_seed T G_is_within cdv An outer s H E hr) rd_is_seed
  have G_check_seed : FnD P w K mg base 4 T.a_check_seed T.fd_check_seed [Str.ofString "thing"] (sp_check_seed A.NoSeed) := okD T.F_check_seed sc_check_seed (len_check_seed A.NoSeed) _ (fun cdv An outer s H E hr => w_check_seed T G_is_seed cdv An outer s H E hr) (rd_check_seed A.NoSeed)
  have G_power_left : FnD P w K mg base 1 T.a_power_left T.fd_power_left [Str.ofString "base", Str.ofString "many"] sp_power_left := okD T.F_power_left sc_power_left len_power_left _ (fun cdv An outer s H E hr => w_power_left T  cdv An outer s H E hr) rd_power_left
  have G_seed_after : FnD P w K mg base 5 T.a_seed_after T.fd_seed_after [Str.ofString "seed", Str.ofString "many"] (sp_seed_after A.NoNumber A.NoSeed) := okD T.F_seed_after sc_seed_after (len_seed_after A.NoNumber A.NoSeed) _ (fun cdv An outer s H E hr => w_seed_after T G_is_integer G_check_seed G_power_left cdv An outer s H E hr) (rd_seed_after A.NoNumber A.NoSeed)
  have G__law_hand : FnD P w K mg base 1 T.a__law_hand T.fd__law_hand [Str.ofString "_law_script"] sp__law_hand := okD T.F__law_hand sc__law_hand len__law_hand _ (fun cdv An outer s H E hr => w__law_hand T  cdv An outer s H E hr) rd__law_hand
  have G__law_take : FnD P w K mg base 1 T.a__law_take T.fd__law_take [Str.ofString "_law_hand_here", Str.ofString "_law_many"] sp__law_take := okD T.F__law_take sc__law_take len__law_take _ (fun cdv An outer s H E hr => w__law_take T  cdv An outer s H E hr) rd__law_take
  have G__law_pick : FnD P w K mg base 2 T.a__law_pick T.fd__law_pick [Str.ofString "_law_hand_here", Str.ofString "_law_things"] sp__law_pick := okD T.F__law_pick sc__law_pick len__law_pick _ (fun cdv An outer s H E hr => w__law_pick T G__law_take cdv An outer s H E hr) rd__law_pick
  have G__law_wide : FnD P w K mg base 2 T.a__law_wide T.fd__law_wide [Str.ofString "_law_hand_here"] sp__law_wide := okD T.F__law_wide sc__law_wide len__law_wide _ (fun cdv An outer s H E hr => w__law_wide T G__law_take cdv An outer s H E hr) rd__law_wide
  have G__law_small : FnD P w K mg base 3 T.a__law_small T.fd__law_small [Str.ofString "_law_hand_here"] sp__law_small := okD T.F__law_small sc__law_small len__law_small _ (fun cdv An outer s H E hr => w__law_small T G__law_take G__law_pick G__law_wide cdv An outer s H E hr) rd__law_small
  have G__law_great : FnD P w K mg base 2 T.a__law_great T.fd__law_great [Str.ofString "_law_hand_here"] sp__law_great := okD T.F__law_great sc__law_great len__law_great _ (fun cdv An outer s H E hr => w__law_great T G__law_take cdv An outer s H E hr) rd__law_great
  have G__law_seed : FnD P w K mg base 3 T.a__law_seed T.fd__law_seed [Str.ofString "_law_hand_here"] sp__law_seed := okD T.F__law_seed sc__law_seed len__law_seed _ (fun cdv An outer s H E hr => w__law_seed T G__law_take G__law_pick cdv An outer s H E hr) rd__law_seed
  have G__law_is_integer : FnD P w K mg base 1 T.a__law_is_integer T.fd__law_is_integer [Str.ofString "_law_thing"] sp__law_is_integer := okD T.F__law_is_integer sc__law_is_integer len__law_is_integer _ (fun cdv An outer s H E hr => w__law_is_integer T  cdv An outer s H E hr) rd__law_is_integer
  have G__law_same : ∀ n, FnD P w K mg base (1 + n) T.a__law_same T.fd__law_same [Str.ofString "_law_actual", Str.ofString "_law_due"] (sp__law_same  n) := by
    intro n
    induction n with
    | zero => exact fn_never fun _ _ _ _ h => h
    | succ n ih => exact okD T.F__law_same sc__law_same (len__law_same  (n + 1)) _ (fun cdv An outer s H E hr => w__law_same T G__law_is_integer (1 + n) (Nat.le_add_right _ _) (sp__law_same  n) ih cdv An outer s H E hr) (rd__law_same  n)
  have G__law_power : FnD P w K mg base 1 T.a__law_power T.fd__law_power [Str.ofString "_law_many"] sp__law_power := okD T.F__law_power sc__law_power len__law_power _ (fun cdv An outer s H E hr => w__law_power T  cdv An outer s H E hr) rd__law_power
  have G_check_integers : FnD P w K mg base 2 T.a_check_integers T.fd_check_integers [Str.ofString "things"] (sp_check_integers A.NoNumber) := okD T.F_check_integers sc_check_integers (len_check_integers A.NoNumber) _ (fun cdv An outer s H E hr => w_check_integers T G_is_integer cdv An outer s H E hr) (rd_check_integers A.NoNumber)
  have G_small : FnD P w K mg base 1 T.a_small T.fd_small [Str.ofString "number"] sp_small := okD T.F_small sc_small len_small _ (fun cdv An outer s H E hr => w_small T  cdv An outer s H E hr) rd_small
  have G_wrapped : FnD P w K mg base 3 T.a_wrapped T.fd_wrapped [Str.ofString "number"] (sp_wrapped A.NoNumber) := okD T.F_wrapped sc_wrapped (len_wrapped A.NoNumber) _ (fun cdv An outer s H E hr => w_wrapped T G_check_integers G_small cdv An outer s H E hr) (rd_wrapped A.NoNumber)
  have G__law_wrapped : FnD P w K mg base 4 T.a__law_wrapped T.fd__law_wrapped [Str.ofString "_law_thing"] (sp__law_wrapped A.NoNumber) := okD T.F__law_wrapped sc__law_wrapped (len__law_wrapped A.NoNumber) _ (fun cdv An outer s H E hr => w__law_wrapped T G_wrapped cdv An outer s H E hr) (rd__law_wrapped A.NoNumber)
  have G_later_seed : FnD P w K mg base 1 T.a_later_seed T.fd_later_seed [Str.ofString "seed"] sp_later_seed := okD T.F_later_seed sc_later_seed len_later_seed _ (fun cdv An outer s H E hr => w_later_seed T  cdv An outer s H E hr) rd_later_seed
  have G_next_seed : FnD P w K mg base 5 T.a_next_seed T.fd_next_seed [Str.ofString "seed"] (sp_next_seed A.NoSeed) := okD T.F_next_seed sc_next_seed (len_next_seed A.NoSeed) _ (fun cdv An outer s H E hr => w_next_seed T G_check_seed G_later_seed cdv An outer s H E hr) (rd_next_seed A.NoSeed)
  have G__law_next : FnD P w K mg base 6 T.a__law_next T.fd__law_next [Str.ofString "_law_thing"] (sp__law_next A.NoSeed) := okD T.F__law_next sc__law_next (len__law_next A.NoSeed) _ (fun cdv An outer s H E hr => w__law_next T G_next_seed cdv An outer s H E hr) (rd__law_next A.NoSeed)
  have G__law_after : FnD P w K mg base 6 T.a__law_after T.fd__law_after [Str.ofString "_law_seed_here", Str.ofString "_law_many"] (sp__law_after A.NoNumber A.NoSeed) := okD T.F__law_after sc__law_after (len__law_after A.NoNumber A.NoSeed) _ (fun cdv An outer s H E hr => w__law_after T G_seed_after cdv An outer s H E hr) (rd__law_after A.NoNumber A.NoSeed)
  have G_is_small : FnD P w K mg base 3 T.a_is_small T.fd_is_small [Str.ofString "thing"] sp_is_small := okD T.F_is_small sc_is_small len_is_small _ (fun cdv An outer s H E hr => w_is_small T G_is_within cdv An outer s H E hr) rd_is_small
  have G_draw : FnD P w K mg base 2 T.a_draw T.fd_draw [Str.ofString "seed", Str.ofString "below"] sp_draw := okD T.F_draw sc_draw len_draw _ (fun cdv An outer s H E hr => w_draw T G_later_seed cdv An outer s H E hr) rd_draw
  have G_drawn : FnD P w K mg base 5 T.a_drawn T.fd_drawn [Str.ofString "seed", Str.ofString "below"] (sp_drawn A.NoNumber A.NoSeed) := okD T.F_drawn sc_drawn (len_drawn A.NoNumber A.NoSeed) _ (fun cdv An outer s H E hr => w_drawn T G_is_small G_check_seed G_draw cdv An outer s H E hr) (rd_drawn A.NoNumber A.NoSeed)
  have G__law_drawn : FnD P w K mg base 6 T.a__law_drawn T.fd__law_drawn [Str.ofString "_law_seed_here", Str.ofString "_law_below"] (sp__law_drawn A.NoNumber A.NoSeed) := okD T.F__law_drawn sc__law_drawn (len__law_drawn A.NoNumber A.NoSeed) _ (fun cdv An outer s H E hr => w__law_drawn T G_drawn cdv An outer s H E hr) (rd__law_drawn A.NoNumber A.NoSeed)
  have G__law_due_wrapped : FnD P w K mg base 2 T.a__law_due_wrapped T.fd__law_due_wrapped [Str.ofString "_law_thing"] sp__law_due_wrapped := okD T.F__law_due_wrapped sc__law_due_wrapped len__law_due_wrapped _ (fun cdv An outer s H E hr => w__law_due_wrapped T G__law_is_integer cdv An outer s H E hr) rd__law_due_wrapped
  have G__law_is_within : FnD P w K mg base 2 T.a__law_is_within T.fd__law_is_within [Str.ofString "_law_thing", Str.ofString "_law_least", Str.ofString "_law_most"] sp__law_is_within := okD T.F__law_is_within sc__law_is_within len__law_is_within _ (fun cdv An outer s H E hr => w__law_is_within T G__law_is_integer cdv An outer s H E hr) rd__law_is_within
  have G__law_due_after : FnD P w K mg base 3 T.a__law_due_after T.fd__law_due_after [Str.ofString "_law_seed_here", Str.ofString "_law_many"] sp__law_due_after := okD T.F__law_due_after sc__law_due_after len__law_due_after _ (fun cdv An outer s H E hr => w__law_due_after T G__law_is_integer G__law_is_within G__law_power cdv An outer s H E hr) rd__law_due_after
  have G__law_due_drawn : FnD P w K mg base 3 T.a__law_due_drawn T.fd__law_due_drawn [Str.ofString "_law_seed_here", Str.ofString "_law_below"] sp__law_due_drawn := okD T.F__law_due_drawn sc__law_due_drawn len__law_due_drawn _ (fun cdv An outer s H E hr => w__law_due_drawn T G__law_is_within cdv An outer s H E hr) rd__law_due_drawn
  have G__law_odd : FnD P w K mg base 2 T.a__law_odd T.fd__law_odd [Str.ofString "_law_hand_here"] sp__law_odd := okD T.F__law_odd sc__law_odd len__law_odd _ (fun cdv An outer s H E hr => w__law_odd T G__law_take cdv An outer s H E hr) rd__law_odd
  have G__law_some : FnD P w K mg base 3 T.a__law_some T.fd__law_some [Str.ofString "_law_hand_here", Str.ofString "_law_right"] sp__law_some := okD T.F__law_some sc__law_some len__law_some _ (fun cdv An outer s H E hr => w__law_some T G__law_take G__law_pick G__law_odd cdv An outer s H E hr) rd__law_some
  have G__law_chained : FnD P w K mg base 6 T.a__law_chained T.fd__law_chained [Str.ofString "_law_seed_here", Str.ofString "_law_many"] (sp__law_chained A.NoSeed) := okD T.F__law_chained sc__law_chained (len__law_chained A.NoSeed) _ (fun cdv An outer s H E hr => w__law_chained T G_next_seed cdv An outer s H E hr) (rd__law_chained A.NoSeed)
  have G_law : FnD P w K mg base 7 T.a_law T.fd_law [Str.ofString "_law_script"] spLaw := okD T.F_law sc_law (len_law A.NoNumber A.NoSeed) _ (fun cdv An outer s H E hr => w_law T G_seed_after G__law_hand G__law_take G__law_small G__law_great G__law_seed (G__law_same 4) G__law_power G__law_wrapped G__law_next G__law_after G__law_drawn G__law_due_wrapped G__law_due_after G__law_due_drawn G__law_some G__law_chained cdv An outer s H E hr) (rd_law A.NoNumber A.NoSeed)
  exact G_law
end
def tx_mk {K : PySem.W.Frag} {h : Heap} {mg : Str → Option Value} (X : K.In h) (G : h.Ns mainGlobals mg)
    {fa_is_integer : Addr} {oc_is_integer kV_is_integer doc_is_integer pm_is_integer cd_is_integer ct_is_integer : Value} {od_is_integer an_is_integer : Option Addr} {sl_is_integer : Array (Option Value)}
    {fa_is_within : Addr} {oc_is_within kV_is_within doc_is_within pm_is_within cd_is_within ct_is_within : Value} {od_is_within an_is_within : Option Addr} {sl_is_within : Array (Option Value)}
    {fa_is_small : Addr} {oc_is_small kV_is_small doc_is_small pm_is_small cd_is_small ct_is_small : Value} {od_is_small an_is_small : Option Addr} {sl_is_small : Array (Option Value)}
    {fa_check_integers : Addr} {oc_check_integers kV_check_integers doc_check_integers pm_check_integers cd_check_integers ct_check_integers : Value} {od_check_integers an_check_integers : Option Addr} {sl_check_integers : Array (Option Value)}
    {fa_small : Addr} {oc_small kV_small doc_small pm_small cd_small ct_small : Value} {od_small an_small : Option Addr} {sl_small : Array (Option Value)}
    {fa_wrapped : Addr} {oc_wrapped kV_wrapped doc_wrapped pm_wrapped cd_wrapped ct_wrapped : Value} {od_wrapped an_wrapped : Option Addr} {sl_wrapped : Array (Option Value)}
    {fa_is_seed : Addr} {oc_is_seed kV_is_seed doc_is_seed pm_is_seed cd_is_seed ct_is_seed : Value} {od_is_seed an_is_seed : Option Addr} {sl_is_seed : Array (Option Value)}
    {fa_check_seed : Addr} {oc_check_seed kV_check_seed doc_check_seed pm_check_seed cd_check_seed ct_check_seed : Value} {od_check_seed an_check_seed : Option Addr} {sl_check_seed : Array (Option Value)}
    {fa_later_seed : Addr} {oc_later_seed kV_later_seed doc_later_seed pm_later_seed cd_later_seed ct_later_seed : Value} {od_later_seed an_later_seed : Option Addr} {sl_later_seed : Array (Option Value)}
    {fa_next_seed : Addr} {oc_next_seed kV_next_seed doc_next_seed pm_next_seed cd_next_seed ct_next_seed : Value} {od_next_seed an_next_seed : Option Addr} {sl_next_seed : Array (Option Value)}
    {fa_power_left : Addr} {oc_power_left kV_power_left doc_power_left pm_power_left cd_power_left ct_power_left : Value} {od_power_left an_power_left : Option Addr} {sl_power_left : Array (Option Value)}
    {fa_seed_after : Addr} {oc_seed_after kV_seed_after doc_seed_after pm_seed_after cd_seed_after ct_seed_after : Value} {od_seed_after an_seed_after : Option Addr} {sl_seed_after : Array (Option Value)}
    {fa_draw : Addr} {oc_draw kV_draw doc_draw pm_draw cd_draw ct_draw : Value} {od_draw an_draw : Option Addr} {sl_draw : Array (Option Value)}
    {fa_drawn : Addr} {oc_drawn kV_drawn doc_drawn pm_drawn cd_drawn ct_drawn : Value} {od_drawn an_drawn : Option Addr} {sl_drawn : Array (Option Value)}
    {fa__law_hand : Addr} {oc__law_hand kV__law_hand doc__law_hand pm__law_hand cd__law_hand ct__law_hand : Value} {od__law_hand an__law_hand : Option Addr} {sl__law_hand : Array (Option Value)}
    {fa__law_take : Addr} {oc__law_take kV__law_take doc__law_take pm__law_take cd__law_take ct__law_take : Value} {od__law_take an__law_take : Option Addr} {sl__law_take : Array (Option Value)}
    {fa__law_pick : Addr} {oc__law_pick kV__law_pick doc__law_pick pm__law_pick cd__law_pick ct__law_pick : Value} {od__law_pick an__law_pick : Option Addr} {sl__law_pick : Array (Option Value)}
    {fa__law_wide : Addr} {oc__law_wide kV__law_wide doc__law_wide pm__law_wide cd__law_wide ct__law_wide : Value} {od__law_wide an__law_wide : Option Addr} {sl__law_wide : Array (Option Value)}
    {fa__law_small : Addr} {oc__law_small kV__law_small doc__law_small pm__law_small cd__law_small ct__law_small : Value} {od__law_small an__law_small : Option Addr} {sl__law_small : Array (Option Value)}
    {fa__law_great : Addr} {oc__law_great kV__law_great doc__law_great pm__law_great cd__law_great ct__law_great : Value} {od__law_great an__law_great : Option Addr} {sl__law_great : Array (Option Value)}
    {fa__law_seed : Addr} {oc__law_seed kV__law_seed doc__law_seed pm__law_seed cd__law_seed ct__law_seed : Value} {od__law_seed an__law_seed : Option Addr} {sl__law_seed : Array (Option Value)}
    {fa__law_is_integer : Addr} {oc__law_is_integer kV__law_is_integer doc__law_is_integer pm__law_is_integer cd__law_is_integer ct__law_is_integer : Value} {od__law_is_integer an__law_is_integer : Option Addr} {sl__law_is_integer : Array (Option Value)}
    {fa__law_is_within : Addr} {oc__law_is_within kV__law_is_within doc__law_is_within pm__law_is_within cd__law_is_within ct__law_is_within : Value} {od__law_is_within an__law_is_within : Option Addr} {sl__law_is_within : Array (Option Value)}
    {fa__law_same : Addr} {oc__law_same kV__law_same doc__law_same pm__law_same cd__law_same ct__law_same : Value} {od__law_same an__law_same : Option Addr} {sl__law_same : Array (Option Value)}
    {fa__law_odd : Addr} {oc__law_odd kV__law_odd doc__law_odd pm__law_odd cd__law_odd ct__law_odd : Value} {od__law_odd an__law_odd : Option Addr} {sl__law_odd : Array (Option Value)}
    {fa__law_power : Addr} {oc__law_power kV__law_power doc__law_power pm__law_power cd__law_power ct__law_power : Value} {od__law_power an__law_power : Option Addr} {sl__law_power : Array (Option Value)}
    {fa__law_wrapped : Addr} {oc__law_wrapped kV__law_wrapped doc__law_wrapped pm__law_wrapped cd__law_wrapped ct__law_wrapped : Value} {od__law_wrapped an__law_wrapped : Option Addr} {sl__law_wrapped : Array (Option Value)}
    {fa__law_next : Addr} {oc__law_next kV__law_next doc__law_next pm__law_next cd__law_next ct__law_next : Value} {od__law_next an__law_next : Option Addr} {sl__law_next : Array (Option Value)}
    {fa__law_after : Addr} {oc__law_after kV__law_after doc__law_after pm__law_after cd__law_after ct__law_after : Value} {od__law_after an__law_after : Option Addr} {sl__law_after : Array (Option Value)}
    {fa__law_drawn : Addr} {oc__law_drawn kV__law_drawn doc__law_drawn pm__law_drawn cd__law_drawn ct__law_drawn : Value} {od__law_drawn an__law_drawn : Option Addr} {sl__law_drawn : Array (Option Value)}
    {fa__law_due_wrapped : Addr} {oc__law_due_wrapped kV__law_due_wrapped doc__law_due_wrapped pm__law_due_wrapped cd__law_due_wrapped ct__law_due_wrapped : Value} {od__law_due_wrapped an__law_due_wrapped : Option Addr} {sl__law_due_wrapped : Array (Option Value)}
    {fa__law_due_after : Addr} {oc__law_due_after kV__law_due_after doc__law_due_after pm__law_due_after cd__law_due_after ct__law_due_after : Value} {od__law_due_after an__law_due_after : Option Addr} {sl__law_due_after : Array (Option Value)}
    {fa__law_due_drawn : Addr} {oc__law_due_drawn kV__law_due_drawn doc__law_due_drawn pm__law_due_drawn cd__law_due_drawn ct__law_due_drawn : Value} {od__law_due_drawn an__law_due_drawn : Option Addr} {sl__law_due_drawn : Array (Option Value)}
    {fa__law_some : Addr} {oc__law_some kV__law_some doc__law_some pm__law_some cd__law_some ct__law_some : Value} {od__law_some an__law_some : Option Addr} {sl__law_some : Array (Option Value)}
    {fa__law_chained : Addr} {oc__law_chained kV__law_chained doc__law_chained pm__law_chained cd__law_chained ct__law_chained : Value} {od__law_chained an__law_chained : Option Addr} {sl__law_chained : Array (Option Value)}
    {fa_law : Addr} {oc_law kV_law doc_law pm_law cd_law ct_law : Value} {od_law an_law : Option Addr} {sl_law : Array (Option Value)}
    {tk1 : Tok}
    {tk2 : Tok}
    {tk3 : Tok}
    {tk4 : Tok}
    {tk5 : Tok}
    {A_NoNumber : Addr}
    {A_NoSeed : Addr}
    (a_is_integer : PySem.W.nsIn K mainGlobals "is_integer" = some (some (.ref fa_is_integer)))
    (l_is_integer : K.lookup fa_is_integer = some ⟨oc_is_integer, od_is_integer, .func (PySem.W.fnOf "is_integer" "is_integer" (defArgs s_is_integer) (defBody s_is_integer) (defScope s_is_integer) .none kV_is_integer doc_is_integer pm_is_integer an_is_integer cd_is_integer ct_is_integer), sl_is_integer⟩)
    (c_is_integer : PySem.W.codeIn K cd_is_integer "is_integer" = true)
    (k_is_integer : PySem.W.keepIn K (.ref fa_is_integer) = true)
    (a_is_within : PySem.W.nsIn K mainGlobals "is_within" = some (some (.ref fa_is_within)))
    (l_is_within : K.lookup fa_is_within = some ⟨oc_is_within, od_is_within, .func (PySem.W.fnOf "is_within" "is_within" (defArgs s_is_within) (defBody s_is_within) (defScope s_is_within) .none kV_is_within doc_is_within pm_is_within an_is_within cd_is_within ct_is_within), sl_is_within⟩)
    (c_is_within : PySem.W.codeIn K cd_is_within "is_within" = true)
    (k_is_within : PySem.W.keepIn K (.ref fa_is_within) = true)
    (a_is_small : PySem.W.nsIn K mainGlobals "is_small" = some (some (.ref fa_is_small)))
    (l_is_small : K.lookup fa_is_small = some ⟨oc_is_small, od_is_small, .func (PySem.W.fnOf "is_small" "is_small" (defArgs s_is_small) (defBody s_is_small) (defScope s_is_small) .none kV_is_small doc_is_small pm_is_small an_is_small cd_is_small ct_is_small), sl_is_small⟩)
    (c_is_small : PySem.W.codeIn K cd_is_small "is_small" = true)
    (k_is_small : PySem.W.keepIn K (.ref fa_is_small) = true)
    (a_check_integers : PySem.W.nsIn K mainGlobals "check_integers" = some (some (.ref fa_check_integers)))
    (l_check_integers : K.lookup fa_check_integers = some ⟨oc_check_integers, od_check_integers, .func (PySem.W.fnOf "check_integers" "check_integers" (defArgs s_check_integers) (defBody s_check_integers) (defScope s_check_integers) .none kV_check_integers doc_check_integers pm_check_integers an_check_integers cd_check_integers ct_check_integers), sl_check_integers⟩)
    (c_check_integers : PySem.W.codeIn K cd_check_integers "check_integers" = true)
    (k_check_integers : PySem.W.keepIn K (.ref fa_check_integers) = true)
    (a_small : PySem.W.nsIn K mainGlobals "small" = some (some (.ref fa_small)))
    (l_small : K.lookup fa_small = some ⟨oc_small, od_small, .func (PySem.W.fnOf "small" "small" (defArgs s_small) (defBody s_small) (defScope s_small) .none kV_small doc_small pm_small an_small cd_small ct_small), sl_small⟩)
    (c_small : PySem.W.codeIn K cd_small "small" = true)
    (k_small : PySem.W.keepIn K (.ref fa_small) = true)
    (a_wrapped : PySem.W.nsIn K mainGlobals "wrapped" = some (some (.ref fa_wrapped)))
    (l_wrapped : K.lookup fa_wrapped = some ⟨oc_wrapped, od_wrapped, .func (PySem.W.fnOf "wrapped" "wrapped" (defArgs s_wrapped) (defBody s_wrapped) (defScope s_wrapped) .none kV_wrapped doc_wrapped pm_wrapped an_wrapped cd_wrapped ct_wrapped), sl_wrapped⟩)
    (c_wrapped : PySem.W.codeIn K cd_wrapped "wrapped" = true)
    (k_wrapped : PySem.W.keepIn K (.ref fa_wrapped) = true)
    (a_is_seed : PySem.W.nsIn K mainGlobals "is_seed" = some (some (.ref fa_is_seed)))
    (l_is_seed : K.lookup fa_is_seed = some ⟨oc_is_seed, od_is_seed, .func (PySem.W.fnOf "is_seed" "is_seed" (defArgs s_is_seed) (defBody s_is_seed) (defScope s_is_seed) .none kV_is_seed doc_is_seed pm_is_seed an_is_seed cd_is_seed ct_is_seed), sl_is_seed⟩)
    (c_is_seed : PySem.W.codeIn K cd_is_seed "is_seed" = true)
    (k_is_seed : PySem.W.keepIn K (.ref fa_is_seed) = true)
    (a_check_seed : PySem.W.nsIn K mainGlobals "check_seed" = some (some (.ref fa_check_seed)))
    (l_check_seed : K.lookup fa_check_seed = some ⟨oc_check_seed, od_check_seed, .func (PySem.W.fnOf "check_seed" "check_seed" (defArgs s_check_seed) (defBody s_check_seed) (defScope s_check_seed) .none kV_check_seed doc_check_seed pm_check_seed an_check_seed cd_check_seed ct_check_seed), sl_check_seed⟩)
    (c_check_seed : PySem.W.codeIn K cd_check_seed "check_seed" = true)
    (k_check_seed : PySem.W.keepIn K (.ref fa_check_seed) = true)
    (a_later_seed : PySem.W.nsIn K mainGlobals "later_seed" = some (some (.ref fa_later_seed)))
    (l_later_seed : K.lookup fa_later_seed = some ⟨oc_later_seed, od_later_seed, .func (PySem.W.fnOf "later_seed" "later_seed" (defArgs s_later_seed) (defBody s_later_seed) (defScope s_later_seed) .none kV_later_seed doc_later_seed pm_later_seed an_later_seed cd_later_seed ct_later_seed), sl_later_seed⟩)
    (c_later_seed : PySem.W.codeIn K cd_later_seed "later_seed" = true)
    (k_later_seed : PySem.W.keepIn K (.ref fa_later_seed) = true)
    (a_next_seed : PySem.W.nsIn K mainGlobals "next_seed" = some (some (.ref fa_next_seed)))
    (l_next_seed : K.lookup fa_next_seed = some ⟨oc_next_seed, od_next_seed, .func (PySem.W.fnOf "next_seed" "next_seed" (defArgs s_next_seed) (defBody s_next_seed) (defScope s_next_seed) .none kV_next_seed doc_next_seed pm_next_seed an_next_seed cd_next_seed ct_next_seed), sl_next_seed⟩)
    (c_next_seed : PySem.W.codeIn K cd_next_seed "next_seed" = true)
    (k_next_seed : PySem.W.keepIn K (.ref fa_next_seed) = true)
    (a_power_left : PySem.W.nsIn K mainGlobals "power_left" = some (some (.ref fa_power_left)))
    (l_power_left : K.lookup fa_power_left = some ⟨oc_power_left, od_power_left, .func (PySem.W.fnOf "power_left" "power_left" (defArgs s_power_left) (defBody s_power_left) (defScope s_power_left) .none kV_power_left doc_power_left pm_power_left an_power_left cd_power_left ct_power_left), sl_power_left⟩)
    (c_power_left : PySem.W.codeIn K cd_power_left "power_left" = true)
    (k_power_left : PySem.W.keepIn K (.ref fa_power_left) = true)
    (a_seed_after : PySem.W.nsIn K mainGlobals "seed_after" = some (some (.ref fa_seed_after)))
    (l_seed_after : K.lookup fa_seed_after = some ⟨oc_seed_after, od_seed_after, .func (PySem.W.fnOf "seed_after" "seed_after" (defArgs s_seed_after) (defBody s_seed_after) (defScope s_seed_after) .none kV_seed_after doc_seed_after pm_seed_after an_seed_after cd_seed_after ct_seed_after), sl_seed_after⟩)
    (c_seed_after : PySem.W.codeIn K cd_seed_after "seed_after" = true)
    (k_seed_after : PySem.W.keepIn K (.ref fa_seed_after) = true)
    (a_draw : PySem.W.nsIn K mainGlobals "draw" = some (some (.ref fa_draw)))
    (l_draw : K.lookup fa_draw = some ⟨oc_draw, od_draw, .func (PySem.W.fnOf "draw" "draw" (defArgs s_draw) (defBody s_draw) (defScope s_draw) .none kV_draw doc_draw pm_draw an_draw cd_draw ct_draw), sl_draw⟩)
    (c_draw : PySem.W.codeIn K cd_draw "draw" = true)
    (k_draw : PySem.W.keepIn K (.ref fa_draw) = true)
    (a_drawn : PySem.W.nsIn K mainGlobals "drawn" = some (some (.ref fa_drawn)))
    (l_drawn : K.lookup fa_drawn = some ⟨oc_drawn, od_drawn, .func (PySem.W.fnOf "drawn" "drawn" (defArgs s_drawn) (defBody s_drawn) (defScope s_drawn) .none kV_drawn doc_drawn pm_drawn an_drawn cd_drawn ct_drawn), sl_drawn⟩)
    (c_drawn : PySem.W.codeIn K cd_drawn "drawn" = true)
    (k_drawn : PySem.W.keepIn K (.ref fa_drawn) = true)
    (a__law_hand : PySem.W.nsIn K mainGlobals "_law_hand" = some (some (.ref fa__law_hand)))
    (l__law_hand : K.lookup fa__law_hand = some ⟨oc__law_hand, od__law_hand, .func (PySem.W.fnOf "_law_hand" "_law_hand" (defArgs s__law_hand) (defBody s__law_hand) (defScope s__law_hand) .none kV__law_hand doc__law_hand pm__law_hand an__law_hand cd__law_hand ct__law_hand), sl__law_hand⟩)
    (c__law_hand : PySem.W.codeIn K cd__law_hand "_law_hand" = true)
    (k__law_hand : PySem.W.keepIn K (.ref fa__law_hand) = true)
    (a__law_take : PySem.W.nsIn K mainGlobals "_law_take" = some (some (.ref fa__law_take)))
    (l__law_take : K.lookup fa__law_take = some ⟨oc__law_take, od__law_take, .func (PySem.W.fnOf "_law_take" "_law_take" (defArgs s__law_take) (defBody s__law_take) (defScope s__law_take) .none kV__law_take doc__law_take pm__law_take an__law_take cd__law_take ct__law_take), sl__law_take⟩)
    (c__law_take : PySem.W.codeIn K cd__law_take "_law_take" = true)
    (k__law_take : PySem.W.keepIn K (.ref fa__law_take) = true)
    (a__law_pick : PySem.W.nsIn K mainGlobals "_law_pick" = some (some (.ref fa__law_pick)))
    (l__law_pick : K.lookup fa__law_pick = some ⟨oc__law_pick, od__law_pick, .func (PySem.W.fnOf "_law_pick" "_law_pick" (defArgs s__law_pick) (defBody s__law_pick) (defScope s__law_pick) .none kV__law_pick doc__law_pick pm__law_pick an__law_pick cd__law_pick ct__law_pick), sl__law_pick⟩)
    (c__law_pick : PySem.W.codeIn K cd__law_pick "_law_pick" = true)
    (k__law_pick : PySem.W.keepIn K (.ref fa__law_pick) = true)
    (a__law_wide : PySem.W.nsIn K mainGlobals "_law_wide" = some (some (.ref fa__law_wide)))
    (l__law_wide : K.lookup fa__law_wide = some ⟨oc__law_wide, od__law_wide, .func (PySem.W.fnOf "_law_wide" "_law_wide" (defArgs s__law_wide) (defBody s__law_wide) (defScope s__law_wide) .none kV__law_wide doc__law_wide pm__law_wide an__law_wide cd__law_wide ct__law_wide), sl__law_wide⟩)
    (c__law_wide : PySem.W.codeIn K cd__law_wide "_law_wide" = true)
    (k__law_wide : PySem.W.keepIn K (.ref fa__law_wide) = true)
    (a__law_small : PySem.W.nsIn K mainGlobals "_law_small" = some (some (.ref fa__law_small)))
    (l__law_small : K.lookup fa__law_small = some ⟨oc__law_small, od__law_small, .func (PySem.W.fnOf "_law_small" "_law_small" (defArgs s__law_small) (defBody s__law_small) (defScope s__law_small) .none kV__law_small doc__law_small pm__law_small an__law_small cd__law_small ct__law_small), sl__law_small⟩)
    (c__law_small : PySem.W.codeIn K cd__law_small "_law_small" = true)
    (k__law_small : PySem.W.keepIn K (.ref fa__law_small) = true)
    (a__law_great : PySem.W.nsIn K mainGlobals "_law_great" = some (some (.ref fa__law_great)))
    (l__law_great : K.lookup fa__law_great = some ⟨oc__law_great, od__law_great, .func (PySem.W.fnOf "_law_great" "_law_great" (defArgs s__law_great) (defBody s__law_great) (defScope s__law_great) .none kV__law_great doc__law_great pm__law_great an__law_great cd__law_great ct__law_great), sl__law_great⟩)
    (c__law_great : PySem.W.codeIn K cd__law_great "_law_great" = true)
    (k__law_great : PySem.W.keepIn K (.ref fa__law_great) = true)
    (a__law_seed : PySem.W.nsIn K mainGlobals "_law_seed" = some (some (.ref fa__law_seed)))
    (l__law_seed : K.lookup fa__law_seed = some ⟨oc__law_seed, od__law_seed, .func (PySem.W.fnOf "_law_seed" "_law_seed" (defArgs s__law_seed) (defBody s__law_seed) (defScope s__law_seed) .none kV__law_seed doc__law_seed pm__law_seed an__law_seed cd__law_seed ct__law_seed), sl__law_seed⟩)
    (c__law_seed : PySem.W.codeIn K cd__law_seed "_law_seed" = true)
    (k__law_seed : PySem.W.keepIn K (.ref fa__law_seed) = true)
    (a__law_is_integer : PySem.W.nsIn K mainGlobals "_law_is_integer" = some (some (.ref fa__law_is_integer)))
    (l__law_is_integer : K.lookup fa__law_is_integer = some ⟨oc__law_is_integer, od__law_is_integer, .func (PySem.W.fnOf "_law_is_integer" "_law_is_integer" (defArgs s__law_is_integer) (defBody s__law_is_integer) (defScope s__law_is_integer) .none kV__law_is_integer doc__law_is_integer pm__law_is_integer an__law_is_integer cd__law_is_integer ct__law_is_integer), sl__law_is_integer⟩)
    (c__law_is_integer : PySem.W.codeIn K cd__law_is_integer "_law_is_integer" = true)
    (k__law_is_integer : PySem.W.keepIn K (.ref fa__law_is_integer) = true)
    (a__law_is_within : PySem.W.nsIn K mainGlobals "_law_is_within" = some (some (.ref fa__law_is_within)))
    (l__law_is_within : K.lookup fa__law_is_within = some ⟨oc__law_is_within, od__law_is_within, .func (PySem.W.fnOf "_law_is_within" "_law_is_within" (defArgs s__law_is_within) (defBody s__law_is_within) (defScope s__law_is_within) .none kV__law_is_within doc__law_is_within pm__law_is_within an__law_is_within cd__law_is_within ct__law_is_within), sl__law_is_within⟩)
    (c__law_is_within : PySem.W.codeIn K cd__law_is_within "_law_is_within" = true)
    (k__law_is_within : PySem.W.keepIn K (.ref fa__law_is_within) = true)
    (a__law_same : PySem.W.nsIn K mainGlobals "_law_same" = some (some (.ref fa__law_same)))
    (l__law_same : K.lookup fa__law_same = some ⟨oc__law_same, od__law_same, .func (PySem.W.fnOf "_law_same" "_law_same" (defArgs s__law_same) (defBody s__law_same) (defScope s__law_same) .none kV__law_same doc__law_same pm__law_same an__law_same cd__law_same ct__law_same), sl__law_same⟩)
    (c__law_same : PySem.W.codeIn K cd__law_same "_law_same" = true)
    (k__law_same : PySem.W.keepIn K (.ref fa__law_same) = true)
    (a__law_odd : PySem.W.nsIn K mainGlobals "_law_odd" = some (some (.ref fa__law_odd)))
    (l__law_odd : K.lookup fa__law_odd = some ⟨oc__law_odd, od__law_odd, .func (PySem.W.fnOf "_law_odd" "_law_odd" (defArgs s__law_odd) (defBody s__law_odd) (defScope s__law_odd) .none kV__law_odd doc__law_odd pm__law_odd an__law_odd cd__law_odd ct__law_odd), sl__law_odd⟩)
    (c__law_odd : PySem.W.codeIn K cd__law_odd "_law_odd" = true)
    (k__law_odd : PySem.W.keepIn K (.ref fa__law_odd) = true)
    (a__law_power : PySem.W.nsIn K mainGlobals "_law_power" = some (some (.ref fa__law_power)))
    (l__law_power : K.lookup fa__law_power = some ⟨oc__law_power, od__law_power, .func (PySem.W.fnOf "_law_power" "_law_power" (defArgs s__law_power) (defBody s__law_power) (defScope s__law_power) .none kV__law_power doc__law_power pm__law_power an__law_power cd__law_power ct__law_power), sl__law_power⟩)
    (c__law_power : PySem.W.codeIn K cd__law_power "_law_power" = true)
    (k__law_power : PySem.W.keepIn K (.ref fa__law_power) = true)
    (a__law_wrapped : PySem.W.nsIn K mainGlobals "_law_wrapped" = some (some (.ref fa__law_wrapped)))
    (l__law_wrapped : K.lookup fa__law_wrapped = some ⟨oc__law_wrapped, od__law_wrapped, .func (PySem.W.fnOf "_law_wrapped" "_law_wrapped" (defArgs s__law_wrapped) (defBody s__law_wrapped) (defScope s__law_wrapped) .none kV__law_wrapped doc__law_wrapped pm__law_wrapped an__law_wrapped cd__law_wrapped ct__law_wrapped), sl__law_wrapped⟩)
    (c__law_wrapped : PySem.W.codeIn K cd__law_wrapped "_law_wrapped" = true)
    (k__law_wrapped : PySem.W.keepIn K (.ref fa__law_wrapped) = true)
    (a__law_next : PySem.W.nsIn K mainGlobals "_law_next" = some (some (.ref fa__law_next)))
    (l__law_next : K.lookup fa__law_next = some ⟨oc__law_next, od__law_next, .func (PySem.W.fnOf "_law_next" "_law_next" (defArgs s__law_next) (defBody s__law_next) (defScope s__law_next) .none kV__law_next doc__law_next pm__law_next an__law_next cd__law_next ct__law_next), sl__law_next⟩)
    (c__law_next : PySem.W.codeIn K cd__law_next "_law_next" = true)
    (k__law_next : PySem.W.keepIn K (.ref fa__law_next) = true)
    (a__law_after : PySem.W.nsIn K mainGlobals "_law_after" = some (some (.ref fa__law_after)))
    (l__law_after : K.lookup fa__law_after = some ⟨oc__law_after, od__law_after, .func (PySem.W.fnOf "_law_after" "_law_after" (defArgs s__law_after) (defBody s__law_after) (defScope s__law_after) .none kV__law_after doc__law_after pm__law_after an__law_after cd__law_after ct__law_after), sl__law_after⟩)
    (c__law_after : PySem.W.codeIn K cd__law_after "_law_after" = true)
    (k__law_after : PySem.W.keepIn K (.ref fa__law_after) = true)
    (a__law_drawn : PySem.W.nsIn K mainGlobals "_law_drawn" = some (some (.ref fa__law_drawn)))
    (l__law_drawn : K.lookup fa__law_drawn = some ⟨oc__law_drawn, od__law_drawn, .func (PySem.W.fnOf "_law_drawn" "_law_drawn" (defArgs s__law_drawn) (defBody s__law_drawn) (defScope s__law_drawn) .none kV__law_drawn doc__law_drawn pm__law_drawn an__law_drawn cd__law_drawn ct__law_drawn), sl__law_drawn⟩)
    (c__law_drawn : PySem.W.codeIn K cd__law_drawn "_law_drawn" = true)
    (k__law_drawn : PySem.W.keepIn K (.ref fa__law_drawn) = true)
    (a__law_due_wrapped : PySem.W.nsIn K mainGlobals "_law_due_wrapped" = some (some (.ref fa__law_due_wrapped)))
    (l__law_due_wrapped : K.lookup fa__law_due_wrapped = some ⟨oc__law_due_wrapped, od__law_due_wrapped, .func (PySem.W.fnOf "_law_due_wrapped" "_law_due_wrapped" (defArgs s__law_due_wrapped) (defBody s__law_due_wrapped) (defScope s__law_due_wrapped) .none kV__law_due_wrapped doc__law_due_wrapped pm__law_due_wrapped an__law_due_wrapped cd__law_due_wrapped ct__law_due_wrapped), sl__law_due_wrapped⟩)
    (c__law_due_wrapped : PySem.W.codeIn K cd__law_due_wrapped "_law_due_wrapped" = true)
    (k__law_due_wrapped : PySem.W.keepIn K (.ref fa__law_due_wrapped) = true)
    (a__law_due_after : PySem.W.nsIn K mainGlobals "_law_due_after" = some (some (.ref fa__law_due_after)))
    (l__law_due_after : K.lookup fa__law_due_after = some ⟨oc__law_due_after, od__law_due_after, .func (PySem.W.fnOf "_law_due_after" "_law_due_after" (defArgs s__law_due_after) (defBody s__law_due_after) (defScope s__law_due_after) .none kV__law_due_after doc__law_due_after pm__law_due_after an__law_due_after cd__law_due_after ct__law_due_after), sl__law_due_after⟩)
    (c__law_due_after : PySem.W.codeIn K cd__law_due_after "_law_due_after" = true)
    (k__law_due_after : PySem.W.keepIn K (.ref fa__law_due_after) = true)
    (a__law_due_drawn : PySem.W.nsIn K mainGlobals "_law_due_drawn" = some (some (.ref fa__law_due_drawn)))
    (l__law_due_drawn : K.lookup fa__law_due_drawn = some ⟨oc__law_due_drawn, od__law_due_drawn, .func (PySem.W.fnOf "_law_due_drawn" "_law_due_drawn" (defArgs s__law_due_drawn) (defBody s__law_due_drawn) (defScope s__law_due_drawn) .none kV__law_due_drawn doc__law_due_drawn pm__law_due_drawn an__law_due_drawn cd__law_due_drawn ct__law_due_drawn), sl__law_due_drawn⟩)
    (c__law_due_drawn : PySem.W.codeIn K cd__law_due_drawn "_law_due_drawn" = true)
    (k__law_due_drawn : PySem.W.keepIn K (.ref fa__law_due_drawn) = true)
    (a__law_some : PySem.W.nsIn K mainGlobals "_law_some" = some (some (.ref fa__law_some)))
    (l__law_some : K.lookup fa__law_some = some ⟨oc__law_some, od__law_some, .func (PySem.W.fnOf "_law_some" "_law_some" (defArgs s__law_some) (defBody s__law_some) (defScope s__law_some) .none kV__law_some doc__law_some pm__law_some an__law_some cd__law_some ct__law_some), sl__law_some⟩)
    (c__law_some : PySem.W.codeIn K cd__law_some "_law_some" = true)
    (k__law_some : PySem.W.keepIn K (.ref fa__law_some) = true)
    (a__law_chained : PySem.W.nsIn K mainGlobals "_law_chained" = some (some (.ref fa__law_chained)))
    (l__law_chained : K.lookup fa__law_chained = some ⟨oc__law_chained, od__law_chained, .func (PySem.W.fnOf "_law_chained" "_law_chained" (defArgs s__law_chained) (defBody s__law_chained) (defScope s__law_chained) .none kV__law_chained doc__law_chained pm__law_chained an__law_chained cd__law_chained ct__law_chained), sl__law_chained⟩)
    (c__law_chained : PySem.W.codeIn K cd__law_chained "_law_chained" = true)
    (k__law_chained : PySem.W.keepIn K (.ref fa__law_chained) = true)
    (a_law : PySem.W.nsIn K mainGlobals "law" = some (some (.ref fa_law)))
    (l_law : K.lookup fa_law = some ⟨oc_law, od_law, .func (PySem.W.fnOf "law" "law" (defArgs s_law) (defBody s_law) (defScope s_law) .none kV_law doc_law pm_law an_law cd_law ct_law), sl_law⟩)
    (c_law : PySem.W.codeIn K cd_law "law" = true)
    (k_law : PySem.W.keepIn K (.ref fa_law) = true)
    (m_LEAST_SMALL : PySem.W.nsIn K mainGlobals "LEAST_SMALL" = some (some (.int (-2147483648) tk1)))
    (m_MOST_SMALL : PySem.W.nsIn K mainGlobals "MOST_SMALL" = some (some (.int 2147483647 tk2)))
    (m_PRIME : PySem.W.nsIn K mainGlobals "PRIME" = some (some (.int 2147483647 tk3)))
    (m_STEP : PySem.W.nsIn K mainGlobals "STEP" = some (some (.int 48271 tk4)))
    (m_WHOLE : PySem.W.nsIn K mainGlobals "WHOLE" = some (some (.int 4294967296 tk5)))
    (n_all : PySem.W.nsIn K mainGlobals "all" = some none)
    (n_bool : PySem.W.nsIn K mainGlobals "bool" = some none)
    (n_int : PySem.W.nsIn K mainGlobals "int" = some none)
    (n_isinstance : PySem.W.nsIn K mainGlobals "isinstance" = some none)
    (n_len : PySem.W.nsIn K mainGlobals "len" = some none)
    (n_list : PySem.W.nsIn K mainGlobals "list" = some none)
    (n_range : PySem.W.nsIn K mainGlobals "range" = some none)
    (n_str : PySem.W.nsIn K mainGlobals "str" = some none)
    (n_tuple : PySem.W.nsIn K mainGlobals "tuple" = some none)
    (n_zip : PySem.W.nsIn K mainGlobals "zip" = some none)
    (m_NoNumber : PySem.W.nsIn K mainGlobals "NoNumber" = some (some (.ref A_NoNumber)))
    (xq_NoNumber : PySem.W.excIn K A_NoNumber [.type "ValueError", .type "Exception", .type "BaseException", .type "object"] "ValueError.__new__" = true)
    (xk_NoNumber : PySem.W.keepIn K (.ref A_NoNumber) = true)
    (xb_NoNumber : PySem.W.subIn K (.ref A_NoNumber) (.type "BaseException") = some true)
    (xt_NoNumber : PySem.W.typeIn K (.ref A_NoNumber) = some (.type "type"))
    (m_NoSeed : PySem.W.nsIn K mainGlobals "NoSeed" = some (some (.ref A_NoSeed)))
    (xq_NoSeed : PySem.W.excIn K A_NoSeed [.type "ValueError", .type "Exception", .type "BaseException", .type "object"] "ValueError.__new__" = true)
    (xk_NoSeed : PySem.W.keepIn K (.ref A_NoSeed) = true)
    (xb_NoSeed : PySem.W.subIn K (.ref A_NoSeed) (.type "BaseException") = some true)
    (xt_NoSeed : PySem.W.typeIn K (.ref A_NoSeed) = some (.type "type"))
    (ic_NoNumber : PySem.W.isClsIn K A_NoNumber = true)
    (e_NoNumber_NoNumber : PySem.W.subIn K (.ref A_NoNumber) (.ref A_NoNumber) = some true)
    (ic_NoSeed : PySem.W.isClsIn K A_NoSeed = true)
    (e_NoNumber_NoSeed : PySem.W.subIn K (.ref A_NoNumber) (.ref A_NoSeed) = some false)
    (e_NoSeed_NoNumber : PySem.W.subIn K (.ref A_NoSeed) (.ref A_NoNumber) = some false)
    (e_NoSeed_NoSeed : PySem.W.subIn K (.ref A_NoSeed) (.ref A_NoSeed) = some true) : Tx K mg ⟨A_NoNumber, A_NoSeed⟩ := {
    a_is_integer := fa_is_integer, fd_is_integer := _, F_is_integer := fun_mk (st := s_is_integer) l_is_integer c_is_integer k_is_integer
    m_is_integer := PySem.W.mg_of X G a_is_integer
    b_is_integer := (fun_mk (st := s_is_integer) l_is_integer c_is_integer k_is_integer).binds (ps := [Str.ofString "thing"]) fun _ _ _ _ _ _ us hl => match us, hl with | [_], _ => rfl
    a_is_within := fa_is_within, fd_is_within := _, F_is_within := fun_mk (st := s_is_within) l_is_within c_is_within k_is_within
    m_is_within := PySem.W.mg_of X G a_is_within
    b_is_within := (fun_mk (st := s_is_within) l_is_within c_is_within k_is_within).binds (ps := [Str.ofString "thing", Str.ofString "least", Str.ofString "most"]) fun _ _ _ _ _ _ us hl => match us, hl with | [_, _, _], _ => rfl
    a_is_small := fa_is_small, fd_is_small := _, F_is_small := fun_mk (st := s_is_small) l_is_small c_is_small k_is_small
    m_is_small := PySem.W.mg_of X G a_is_small
    b_is_small := (fun_mk (st := s_is_small) l_is_small c_is_small k_is_small).binds (ps := [Str.ofString "thing"]) fun _ _ _ _ _ _ us hl => match us, hl with | [_], _ => rfl
    a_check_integers := fa_check_integers, fd_check_integers := _, F_check_integers := fun_mk (st := s_check_integers) l_check_integers c_check_integers k_check_integers
    m_check_integers := PySem.W.mg_of X G a_check_integers
    b_check_integers := (fun_mk (st := s_check_integers) l_check_integers c_check_integers k_check_integers).binds (ps := [Str.ofString "things"]) fun _ _ _ _ _ _ us hl => match us, hl with | [_], _ => rfl
    a_small := fa_small, fd_small := _, F_small := fun_mk (st := s_small) l_small c_small k_small
    m_small := PySem.W.mg_of X G a_small
    b_small := (fun_mk (st := s_small) l_small c_small k_small).binds (ps := [Str.ofString "number"]) fun _ _ _ _ _ _ us hl => match us, hl with | [_], _ => rfl
    a_wrapped := fa_wrapped, fd_wrapped := _, F_wrapped := fun_mk (st := s_wrapped) l_wrapped c_wrapped k_wrapped
    m_wrapped := PySem.W.mg_of X G a_wrapped
    b_wrapped := (fun_mk (st := s_wrapped) l_wrapped c_wrapped k_wrapped).binds (ps := [Str.ofString "number"]) fun _ _ _ _ _ _ us hl => match us, hl with | [_], _ => rfl
    a_is_seed := fa_is_seed, fd_is_seed := _, F_is_seed := fun_mk (st := s_is_seed) l_is_seed c_is_seed k_is_seed
    m_is_seed := PySem.W.mg_of X G a_is_seed
    b_is_seed := (fun_mk (st := s_is_seed) l_is_seed c_is_seed k_is_seed).binds (ps := [Str.ofString "thing"]) fun _ _ _ _ _ _ us hl => match us, hl with | [_], _ => rfl
    a_check_seed := fa_check_seed, fd_check_seed := _, F_check_seed := fun_mk (st := s_check_seed) l_check_seed c_check_seed k_check_seed
    m_check_seed := PySem.W.mg_of X G a_check_seed
    b_check_seed := (fun_mk (st := s_check_seed) l_check_seed c_check_seed k_check_seed).binds (ps := [Str.ofString "thing"]) fun _ _ _ _ _ _ us hl => match us, hl with | [_], _ => rfl
    a_later_seed := fa_later_seed, fd_later_seed := _, F_later_seed := fun_mk (st := s_later_seed) l_later_seed c_later_seed k_later_seed
    m_later_seed := PySem.W.mg_of X G a_later_seed
    b_later_seed := (fun_mk (st := s_later_seed) l_later_seed c_later_seed k_later_seed).binds (ps := [Str.ofString "seed"]) fun _ _ _ _ _ _ us hl => match us, hl with | [_], _ => rfl
    a_next_seed := fa_next_seed, fd_next_seed := _, F_next_seed := fun_mk (st := s_next_seed) l_next_seed c_next_seed k_next_seed
    m_next_seed := PySem.W.mg_of X G a_next_seed
    b_next_seed := (fun_mk (st := s_next_seed) l_next_seed c_next_seed k_next_seed).binds (ps := [Str.ofString "seed"]) fun _ _ _ _ _ _ us hl => match us, hl with | [_], _ => rfl
    a_power_left := fa_power_left, fd_power_left := _, F_power_left := fun_mk (st := s_power_left) l_power_left c_power_left k_power_left
    m_power_left := PySem.W.mg_of X G a_power_left
    b_power_left := (fun_mk (st := s_power_left) l_power_left c_power_left k_power_left).binds (ps := [Str.ofString "base", Str.ofString "many"]) fun _ _ _ _ _ _ us hl => match us, hl with | [_, _], _ => rfl
    a_seed_after := fa_seed_after, fd_seed_after := _, F_seed_after := fun_mk (st := s_seed_after) l_seed_after c_seed_after k_seed_after
    m_seed_after := PySem.W.mg_of X G a_seed_after
    b_seed_after := (fun_mk (st := s_seed_after) l_seed_after c_seed_after k_seed_after).binds (ps := [Str.ofString "seed", Str.ofString "many"]) fun _ _ _ _ _ _ us hl => match us, hl with | [_, _], _ => rfl
    a_draw := fa_draw, fd_draw := _, F_draw := fun_mk (st := s_draw) l_draw c_draw k_draw
    m_draw := PySem.W.mg_of X G a_draw
    b_draw := (fun_mk (st := s_draw) l_draw c_draw k_draw).binds (ps := [Str.ofString "seed", Str.ofString "below"]) fun _ _ _ _ _ _ us hl => match us, hl with | [_, _], _ => rfl
    a_drawn := fa_drawn, fd_drawn := _, F_drawn := fun_mk (st := s_drawn) l_drawn c_drawn k_drawn
    m_drawn := PySem.W.mg_of X G a_drawn
    b_drawn := (fun_mk (st := s_drawn) l_drawn c_drawn k_drawn).binds (ps := [Str.ofString "seed", Str.ofString "below"]) fun _ _ _ _ _ _ us hl => match us, hl with | [_, _], _ => rfl
    a__law_hand := fa__law_hand, fd__law_hand := _, F__law_hand := fun_mk (st := s__law_hand) l__law_hand c__law_hand k__law_hand
    m__law_hand := PySem.W.mg_of X G a__law_hand
    b__law_hand := (fun_mk (st := s__law_hand) l__law_hand c__law_hand k__law_hand).binds (ps := [Str.ofString "_law_script"]) fun _ _ _ _ _ _ us hl => match us, hl with | [_], _ => rfl
    a__law_take := fa__law_take, fd__law_take := _, F__law_take := fun_mk (st := s__law_take) l__law_take c__law_take k__law_take
    m__law_take := PySem.W.mg_of X G a__law_take
    b__law_take := (fun_mk (st := s__law_take) l__law_take c__law_take k__law_take).binds (ps := [Str.ofString "_law_hand_here", Str.ofString "_law_many"]) fun _ _ _ _ _ _ us hl => match us, hl with | [_, _], _ => rfl
    a__law_pick := fa__law_pick, fd__law_pick := _, F__law_pick := fun_mk (st := s__law_pick) l__law_pick c__law_pick k__law_pick
    m__law_pick := PySem.W.mg_of X G a__law_pick
    b__law_pick := (fun_mk (st := s__law_pick) l__law_pick c__law_pick k__law_pick).binds (ps := [Str.ofString "_law_hand_here", Str.ofString "_law_things"]) fun _ _ _ _ _ _ us hl => match us, hl with | [_, _], _ => rfl
    a__law_wide := fa__law_wide, fd__law_wide := _, F__law_wide := fun_mk (st := s__law_wide) l__law_wide c__law_wide k__law_wide
    m__law_wide := PySem.W.mg_of X G a__law_wide
    b__law_wide := (fun_mk (st := s__law_wide) l__law_wide c__law_wide k__law_wide).binds (ps := [Str.ofString "_law_hand_here"]) fun _ _ _ _ _ _ us hl => match us, hl with | [_], _ => rfl
    a__law_small := fa__law_small, fd__law_small := _, F__law_small := fun_mk (st := s__law_small) l__law_small c__law_small k__law_small
    m__law_small := PySem.W.mg_of X G a__law_small
    b__law_small := (fun_mk (st := s__law_small) l__law_small c__law_small k__law_small).binds (ps := [Str.ofString "_law_hand_here"]) fun _ _ _ _ _ _ us hl => match us, hl with | [_], _ => rfl
    a__law_great := fa__law_great, fd__law_great := _, F__law_great := fun_mk (st := s__law_great) l__law_great c__law_great k__law_great
    m__law_great := PySem.W.mg_of X G a__law_great
    b__law_great := (fun_mk (st := s__law_great) l__law_great c__law_great k__law_great).binds (ps := [Str.ofString "_law_hand_here"]) fun _ _ _ _ _ _ us hl => match us, hl with | [_], _ => rfl
    a__law_seed := fa__law_seed, fd__law_seed := _, F__law_seed := fun_mk (st := s__law_seed) l__law_seed c__law_seed k__law_seed
    m__law_seed := PySem.W.mg_of X G a__law_seed
    b__law_seed := (fun_mk (st := s__law_seed) l__law_seed c__law_seed k__law_seed).binds (ps := [Str.ofString "_law_hand_here"]) fun _ _ _ _ _ _ us hl => match us, hl with | [_], _ => rfl
    a__law_is_integer := fa__law_is_integer, fd__law_is_integer := _, F__law_is_integer := fun_mk (st := s__law_is_integer) l__law_is_integer c__law_is_integer k__law_is_integer
    m__law_is_integer := PySem.W.mg_of X G a__law_is_integer
    b__law_is_integer := (fun_mk (st := s__law_is_integer) l__law_is_integer c__law_is_integer k__law_is_integer).binds (ps := [Str.ofString "_law_thing"]) fun _ _ _ _ _ _ us hl => match us, hl with | [_], _ => rfl
    a__law_is_within := fa__law_is_within, fd__law_is_within := _, F__law_is_within := fun_mk (st := s__law_is_within) l__law_is_within c__law_is_within k__law_is_within
    m__law_is_within := PySem.W.mg_of X G a__law_is_within
    b__law_is_within := (fun_mk (st := s__law_is_within) l__law_is_within c__law_is_within k__law_is_within).binds (ps := [Str.ofString "_law_thing", Str.ofString "_law_least", Str.ofString "_law_most"]) fun _ _ _ _ _ _ us hl => match us, hl with | [_, _, _], _ => rfl
    a__law_same := fa__law_same, fd__law_same := _, F__law_same := fun_mk (st := s__law_same) l__law_same c__law_same k__law_same
    m__law_same := PySem.W.mg_of X G a__law_same
    b__law_same := (fun_mk (st := s__law_same) l__law_same c__law_same k__law_same).binds (ps := [Str.ofString "_law_actual", Str.ofString "_law_due"]) fun _ _ _ _ _ _ us hl => match us, hl with | [_, _], _ => rfl
    a__law_odd := fa__law_odd, fd__law_odd := _, F__law_odd := fun_mk (st := s__law_odd) l__law_odd c__law_odd k__law_odd
    m__law_odd := PySem.W.mg_of X G a__law_odd
    b__law_odd := (fun_mk (st := s__law_odd) l__law_odd c__law_odd k__law_odd).binds (ps := [Str.ofString "_law_hand_here"]) fun _ _ _ _ _ _ us hl => match us, hl with | [_], _ => rfl
    a__law_power := fa__law_power, fd__law_power := _, F__law_power := fun_mk (st := s__law_power) l__law_power c__law_power k__law_power
    m__law_power := PySem.W.mg_of X G a__law_power
    b__law_power := (fun_mk (st := s__law_power) l__law_power c__law_power k__law_power).binds (ps := [Str.ofString "_law_many"]) fun _ _ _ _ _ _ us hl => match us, hl with | [_], _ => rfl
    a__law_wrapped := fa__law_wrapped, fd__law_wrapped := _, F__law_wrapped := fun_mk (st := s__law_wrapped) l__law_wrapped c__law_wrapped k__law_wrapped
    m__law_wrapped := PySem.W.mg_of X G a__law_wrapped
    b__law_wrapped := (fun_mk (st := s__law_wrapped) l__law_wrapped c__law_wrapped k__law_wrapped).binds (ps := [Str.ofString "_law_thing"]) fun _ _ _ _ _ _ us hl => match us, hl with | [_], _ => rfl
    a__law_next := fa__law_next, fd__law_next := _, F__law_next := fun_mk (st := s__law_next) l__law_next c__law_next k__law_next
    m__law_next := PySem.W.mg_of X G a__law_next
    b__law_next := (fun_mk (st := s__law_next) l__law_next c__law_next k__law_next).binds (ps := [Str.ofString "_law_thing"]) fun _ _ _ _ _ _ us hl => match us, hl with | [_], _ => rfl
    a__law_after := fa__law_after, fd__law_after := _, F__law_after := fun_mk (st := s__law_after) l__law_after c__law_after k__law_after
    m__law_after := PySem.W.mg_of X G a__law_after
    b__law_after := (fun_mk (st := s__law_after) l__law_after c__law_after k__law_after).binds (ps := [Str.ofString "_law_seed_here", Str.ofString "_law_many"]) fun _ _ _ _ _ _ us hl => match us, hl with | [_, _], _ => rfl
    a__law_drawn := fa__law_drawn, fd__law_drawn := _, F__law_drawn := fun_mk (st := s__law_drawn) l__law_drawn c__law_drawn k__law_drawn
    m__law_drawn := PySem.W.mg_of X G a__law_drawn
    b__law_drawn := (fun_mk (st := s__law_drawn) l__law_drawn c__law_drawn k__law_drawn).binds (ps := [Str.ofString "_law_seed_here", Str.ofString "_law_below"]) fun _ _ _ _ _ _ us hl => match us, hl with | [_, _], _ => rfl
    a__law_due_wrapped := fa__law_due_wrapped, fd__law_due_wrapped := _, F__law_due_wrapped := fun_mk (st := s__law_due_wrapped) l__law_due_wrapped c__law_due_wrapped k__law_due_wrapped
    m__law_due_wrapped := PySem.W.mg_of X G a__law_due_wrapped
    b__law_due_wrapped := (fun_mk (st := s__law_due_wrapped) l__law_due_wrapped c__law_due_wrapped k__law_due_wrapped).binds (ps := [Str.ofString "_law_thing"]) fun _ _ _ _ _ _ us hl => match us, hl with | [_], _ => rfl
    a__law_due_after := fa__law_due_after, fd__law_due_after := _, F__law_due_after := fun_mk (st := s__law_due_after) l__law_due_after c__law_due_after k__law_due_after
    m__law_due_after := PySem.W.mg_of X G a__law_due_after
    b__law_due_after := (fun_mk (st := s__law_due_after) l__law_due_after c__law_due_after k__law_due_after).binds (ps := [Str.ofString "_law_seed_here", Str.ofString "_law_many"]) fun _ _ _ _ _ _ us hl => match us, hl with | [_, _], _ => rfl
    a__law_due_drawn := fa__law_due_drawn, fd__law_due_drawn := _, F__law_due_drawn := fun_mk (st := s__law_due_drawn) l__law_due_drawn c__law_due_drawn k__law_due_drawn
    m__law_due_drawn := PySem.W.mg_of X G a__law_due_drawn
    b__law_due_drawn := (fun_mk (st := s__law_due_drawn) l__law_due_drawn c__law_due_drawn k__law_due_drawn).binds (ps := [Str.ofString "_law_seed_here", Str.ofString "_law_below"]) fun _ _ _ _ _ _ us hl => match us, hl with | [_, _], _ => rfl
    a__law_some := fa__law_some, fd__law_some := _, F__law_some := fun_mk (st := s__law_some) l__law_some c__law_some k__law_some
    m__law_some := PySem.W.mg_of X G a__law_some
    b__law_some := (fun_mk (st := s__law_some) l__law_some c__law_some k__law_some).binds (ps := [Str.ofString "_law_hand_here", Str.ofString "_law_right"]) fun _ _ _ _ _ _ us hl => match us, hl with | [_, _], _ => rfl
    a__law_chained := fa__law_chained, fd__law_chained := _, F__law_chained := fun_mk (st := s__law_chained) l__law_chained c__law_chained k__law_chained
    m__law_chained := PySem.W.mg_of X G a__law_chained
    b__law_chained := (fun_mk (st := s__law_chained) l__law_chained c__law_chained k__law_chained).binds (ps := [Str.ofString "_law_seed_here", Str.ofString "_law_many"]) fun _ _ _ _ _ _ us hl => match us, hl with | [_, _], _ => rfl
    a_law := fa_law, fd_law := _, F_law := fun_mk (st := s_law) l_law c_law k_law
    m_law := PySem.W.mg_of X G a_law
    b_law := (fun_mk (st := s_law) l_law c_law k_law).binds (ps := [Str.ofString "_law_script"]) fun _ _ _ _ _ _ us hl => match us, hl with | [_], _ => rfl
    u_LEAST_SMALL := _, m_LEAST_SMALL := PySem.W.mg_of X G m_LEAST_SMALL, v_LEAST_SMALL := v_int
    u_MOST_SMALL := _, m_MOST_SMALL := PySem.W.mg_of X G m_MOST_SMALL, v_MOST_SMALL := v_int
    u_PRIME := _, m_PRIME := PySem.W.mg_of X G m_PRIME, v_PRIME := v_int
    u_STEP := _, m_STEP := PySem.W.mg_of X G m_STEP, v_STEP := v_int
    u_WHOLE := _, m_WHOLE := PySem.W.mg_of X G m_WHOLE, v_WHOLE := v_int
    n_all := PySem.W.mg_none_of X G n_all
    n_bool := PySem.W.mg_none_of X G n_bool
    n_int := PySem.W.mg_none_of X G n_int
    n_isinstance := PySem.W.mg_none_of X G n_isinstance
    n_len := PySem.W.mg_none_of X G n_len
    n_list := PySem.W.mg_none_of X G n_list
    n_range := PySem.W.mg_none_of X G n_range
    n_str := PySem.W.mg_none_of X G n_str
    n_tuple := PySem.W.mg_none_of X G n_tuple
    n_zip := PySem.W.mg_none_of X G n_zip
    m_NoNumber := PySem.W.mg_of X G m_NoNumber
    x_NoNumber := ⟨xq_NoNumber, xk_NoNumber, xb_NoNumber, xt_NoNumber⟩
    m_NoSeed := PySem.W.mg_of X G m_NoSeed
    x_NoSeed := ⟨xq_NoSeed, xk_NoSeed, xb_NoSeed, xt_NoSeed⟩
    e_NoNumber_NoNumber := exm_mk xb_NoNumber ic_NoNumber xt_NoNumber e_NoNumber_NoNumber
    e_NoNumber_NoSeed := exm_mk xb_NoSeed ic_NoSeed xt_NoSeed e_NoNumber_NoSeed
    e_NoSeed_NoNumber := exm_mk xb_NoNumber ic_NoNumber xt_NoNumber e_NoSeed_NoNumber
    e_NoSeed_NoSeed := exm_mk xb_NoSeed ic_NoSeed xt_NoSeed e_NoSeed_NoSeed }
theorem law_mk {P : Program} {w : World} {K : PySem.W.Frag} {h : Heap} {mg : Str → Option Value} {A : Ad} {fa : Addr} (hfa : mg "law" = some (.ref fa)) (T : Tx K mg A) :
    ∃ fd : FuncData, (∀ (s : Shared) (v : Value), BindsTo s fd ⟨[v], []⟩ [(Str.ofString "_law_script", v)]) ∧ ∀ base : Heap, K.In base → base.Ns mainGlobals mg → FnD P w K mg base 7 fa fd [Str.ofString "_law_script"] spLaw := by
  have e := hfa.symm.trans T.m_law
  cases e
  refine ⟨T.fd_law, fun s v => ?_, fun base _ _ => all_mk_ok T⟩
  obtain ⟨oc, od, kV, doc, pm, an, cdv, ct, osl, e, _, _⟩ := T.F_law.ex
  rw [e]
  exact .of_eq rfl
end Lw
open PySem PySem.W PyProof.Rows
set_option maxRecDepth 100000 in
set_option maxHeartbeats 0 in
theorem PySem.Challenge.cw_guessedworlds_k01_small_integers_and_see_holds : PySem.Challenge.rw_guessedworlds_k01_small_integers_and_see.Holds := by
  w_on; o_law; k_head; (case hw => w_witness2)
  k_fill
  refine L2.walk_of (l := PySem.Challenge.rw_guessedworlds_k01_small_integers_and_see) (n := 63) (k := 7) (x := "_law_script") (CX := fun w => L2.CX PySem.Challenge.rw_guessedworlds_k01_small_integers_and_see.prog w) (sp := fun w => VD.lowF _ VD.spLaw) rfl (by decide) rfl ⟨rfl, by decide, by decide⟩ (fun w h Y => PySem.W.kIn_of Y) ?F (fun _ _ a ns hl hO hS => VD.law_in hl hO hS) (fun _ H s e s' h => VD.law_out H s e s' h)
  case F =>
    intro w mg fa h KX G hmg
    refine' Lw.law_mk (h := h) hmg (Lw.tx_mk KX G ?a_is_integer ?l_is_integer ?c_is_integer ?k_is_integer ?a_is_within ?l_is_within ?c_is_within ?k_is_within ?a_is_small ?l_is_small ?c_is_small ?k_is_small ?a_check_integers ?l_check_integers ?c_check_integers ?k_check_integers ?a_small ?l_small ?c_small ?k_small ?a_wrapped ?l_wrapped ?c_wrapped ?k_wrapped ?a_is_seed ?l_is_seed ?c_is_seed ?k_is_seed ?a_check_seed ?l_check_seed ?c_check_seed ?k_check_seed ?a_later_seed ?l_later_seed ?c_later_seed ?k_later_seed ?a_next_seed ?l_next_seed ?c_next_seed ?k_next_seed ?a_power_left ?l_power_left ?c_power_left ?k_power_left ?a_seed_after ?l_seed_after ?c_seed_after ?k_seed_after ?a_draw ?l_draw ?c_draw ?k_draw ?a_drawn ?l_drawn ?c_drawn ?k_drawn ?a__law_hand ?l__law_hand ?c__law_hand ?k__law_hand ?a__law_take ?l__law_take ?c__law_take ?k__law_take ?a__law_pick ?l__law_pick ?c__law_pick ?k__law_pick ?a__law_wide ?l__law_wide ?c__law_wide ?k__law_wide ?a__law_small ?l__law_small ?c__law_small ?k__law_small ?a__law_great ?l__law_great ?c__law_great ?k__law_great ?a__law_seed ?l__law_seed ?c__law_seed ?k__law_seed ?a__law_is_integer ?l__law_is_integer ?c__law_is_integer ?k__law_is_integer ?a__law_is_within ?l__law_is_within ?c__law_is_within ?k__law_is_within ?a__law_same ?l__law_same ?c__law_same ?k__law_same ?a__law_odd ?l__law_odd ?c__law_odd ?k__law_odd ?a__law_power ?l__law_power ?c__law_power ?k__law_power ?a__law_wrapped ?l__law_wrapped ?c__law_wrapped ?k__law_wrapped ?a__law_next ?l__law_next ?c__law_next ?k__law_next ?a__law_after ?l__law_after ?c__law_after ?k__law_after ?a__law_drawn ?l__law_drawn ?c__law_drawn ?k__law_drawn ?a__law_due_wrapped ?l__law_due_wrapped ?c__law_due_wrapped ?k__law_due_wrapped ?a__law_due_after ?l__law_due_after ?c__law_due_after ?k__law_due_after ?a__law_due_drawn ?l__law_due_drawn ?c__law_due_drawn ?k__law_due_drawn ?a__law_some ?l__law_some ?c__law_some ?k__law_some ?a__law_chained ?l__law_chained ?c__law_chained ?k__law_chained ?a_law ?l_law ?c_law ?k_law ?m_LEAST_SMALL ?m_MOST_SMALL ?m_PRIME ?m_STEP ?m_WHOLE ?n_all ?n_bool ?n_int ?n_isinstance ?n_len ?n_list ?n_range ?n_str ?n_tuple ?n_zip ?m_NoNumber ?xq_NoNumber ?xk_NoNumber ?xb_NoNumber ?xt_NoNumber ?m_NoSeed ?xq_NoSeed ?xk_NoSeed ?xb_NoSeed ?xt_NoSeed ?ic_NoNumber ?e_NoNumber_NoNumber ?ic_NoSeed ?e_NoNumber_NoSeed ?e_NoSeed_NoNumber ?e_NoSeed_NoSeed)
    (case a_is_integer => k_is); (case l_is_integer => k_is); (case c_is_integer => k_is); (case k_is_integer => k_is); (case a_is_within => k_is); (case l_is_within => k_is); (case c_is_within => k_is); (case k_is_within => k_is); (case a_is_small => k_is); (case l_is_small => k_is); (case c_is_small => k_is); (case k_is_small => k_is); (case a_check_integers => k_is); (case l_check_integers => k_is); (case c_check_integers => k_is); (case k_check_integers => k_is); (case a_small => k_is); (case l_small => k_is); (case c_small => k_is); (case k_small => k_is); (case a_wrapped => k_is); (case l_wrapped => k_is); (case c_wrapped => k_is); (case k_wrapped => k_is); (case a_is_seed => k_is); (case l_is_seed => k_is); (case c_is_seed => k_is); (case k_is_seed => k_is); (case a_check_seed => k_is); (case l_check_seed => k_is); (case c_check_seed => k_is); (case k_check_seed => k_is); (case a_later_seed => k_is); (case l_later_seed => k_is); (case c_later_seed => k_is); (case k_later_seed => k_is); (case a_next_seed => k_is); (case l_next_seed => k_is); (case c_next_seed => k_is); (case k_next_seed => k_is); (case a_power_left => k_is); (case l_power_left => k_is); (case c_power_left => k_is); (case k_power_left => k_is); (case a_seed_after => k_is); (case l_seed_after => k_is); (case c_seed_after => k_is); (case k_seed_after => k_is); (case a_draw => k_is); (case l_draw => k_is); (case c_draw => k_is); (case k_draw => k_is); (case a_drawn => k_is); (case l_drawn => k_is); (case c_drawn => k_is); (case k_drawn => k_is); (case a__law_hand => k_is); (case l__law_hand => k_is); (case c__law_hand => k_is); (case k__law_hand => k_is); (case a__law_take => k_is); (case l__law_take => k_is); (case c__law_take => k_is); (case k__law_take => k_is); (case a__law_pick => k_is); (case l__law_pick => k_is); (case c__law_pick => k_is); (case k__law_pick => k_is); (case a__law_wide => k_is); (case l__law_wide => k_is); (case c__law_wide => k_is); (case k__law_wide => k_is); (case a__law_small => k_is); (case l__law_small => k_is); (case c__law_small => k_is); (case k__law_small => k_is); (case a__law_great => k_is); (case l__law_great => k_is); (case c__law_great => k_is); (case k__law_great => k_is); (case a__law_seed => k_is); (case l__law_seed => k_is); (case c__law_seed => k_is); (case k__law_seed => k_is); (case a__law_is_integer => k_is); (case l__law_is_integer => k_is); (case c__law_is_integer => k_is); (case k__law_is_integer => k_is); (case a__law_is_within => k_is); (case l__law_is_within => k_is); (case c__law_is_within => k_is); (case k__law_is_within => k_is); (case a__law_same => k_is); (case l__law_same => k_is); (case c__law_same => k_is); (case k__law_same => k_is); (case a__law_odd => k_is); (case l__law_odd => k_is); (case c__law_odd => k_is); (case k__law_odd => k_is); (case a__law_power => k_is); (case l__law_power => k_is); (case c__law_power => k_is); (case k__law_power => k_is); (case a__law_wrapped => k_is); (case l__law_wrapped => k_is); (case c__law_wrapped => k_is); (case k__law_wrapped => k_is); (case a__law_next => k_is); (case l__law_next => k_is); (case c__law_next => k_is); (case k__law_next => k_is); (case a__law_after => k_is); (case l__law_after => k_is); (case c__law_after => k_is); (case k__law_after => k_is); (case a__law_drawn => k_is); (case l__law_drawn => k_is); (case c__law_drawn => k_is); (case k__law_drawn => k_is); (case a__law_due_wrapped => k_is); (case l__law_due_wrapped => k_is); (case c__law_due_wrapped => k_is); (case k__law_due_wrapped => k_is); (case a__law_due_after => k_is); (case l__law_due_after => k_is); (case c__law_due_after => k_is); (case k__law_due_after => k_is); (case a__law_due_drawn => k_is); (case l__law_due_drawn => k_is); (case c__law_due_drawn => k_is); (case k__law_due_drawn => k_is); (case a__law_some => k_is); (case l__law_some => k_is); (case c__law_some => k_is); (case k__law_some => k_is); (case a__law_chained => k_is); (case l__law_chained => k_is); (case c__law_chained => k_is); (case k__law_chained => k_is); (case a_law => k_is); (case l_law => k_is); (case c_law => k_is); (case k_law => k_is); (case m_LEAST_SMALL => k_is); (case m_MOST_SMALL => k_is); (case m_PRIME => k_is); (case m_STEP => k_is); (case m_WHOLE => k_is); (case n_all => k_is); (case n_bool => k_is); (case n_int => k_is); (case n_isinstance => k_is); (case n_len => k_is); (case n_list => k_is); (case n_range => k_is); (case n_str => k_is); (case n_tuple => k_is); (case n_zip => k_is); (case m_NoNumber => k_is); (case xq_NoNumber => k_exc); (case xk_NoNumber => k_is); (case xb_NoNumber => k_is); (case xt_NoNumber => k_is); (case m_NoSeed => k_is); (case xq_NoSeed => k_exc); (case xk_NoSeed => k_is); (case xb_NoSeed => k_is); (case xt_NoSeed => k_is); (case ic_NoNumber => k_is); (case e_NoNumber_NoNumber => k_is); (case ic_NoSeed => k_is); (case e_NoNumber_NoSeed => k_is); (case e_NoSeed_NoNumber => k_is); (case e_NoSeed_NoSeed => k_is)
