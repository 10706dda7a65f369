import PyProof.Rows.All
import Wide.All
import OpenK.AllK
import Wide.FinOn
import HandS.ForMost
import HandS.ForExc
import HandS.IsInst
import HandS.TupAny
import HandS.Wide
import HandS.TupMul
import HandS.TryMany
import HandS.Zip
import HandS.Style
import PyProof.StrOps2
import HandS.ExcInit
import HandS.ExcField
import PySem.Challenge.RW_guessedworlds_k25_whole_changes_of_rows
set_option Elab.async false
set_option linter.all false
set_option maxRecDepth 100000
set_option maxHeartbeats 4000000
/-! data by value: tuples are plain data, lists and instances stand in a store -/
namespace VD
open PySem PySem.Spec PyProof.Rows L2

inductive Dv where
  | non | bl (b : Bool) | int (i : Int) | str (x : Str) | ty (n : String) | ref (a : Addr) | tup (ds : List Dv) | rol (ds : List Dv)
instance : Inhabited Dv := ⟨.non⟩

/-- what stands at a stored address -/
inductive MO where
  | lst (ds : List Dv) | dK (kvs : List (Key × Dv)) | ins (C dx : Addr) (fs : List (Str × Dv)) | xd (fs : List (Str × Dv))
abbrev Sto := Addr → Option MO
abbrev Rho := List (Option Dv)
def put (S : Sto) (a : Addr) (m : MO) : Sto := fun b => if b = a then some m else S b
theorem put_same {S : Sto} {a : Addr} {m : MO} : put S a m a = some m := by unfold put; rw [if_pos rfl]
theorem put_ne {S : Sto} {a b : Addr} {m : MO} (h : b ≠ a) : put S a m b = S b := by unfold put; rw [if_neg h]
theorem put_put {S : Sto} {a : Addr} {m n : MO} : put (put S a m) a n = put S a n := by
  funext b; unfold put; split <;> rfl
theorem put_comm {S : Sto} {a b : Addr} {m n : MO} (h : a ≠ b) : put (put S a m) b n = put (put S b n) a m := by
  funext c; unfold put; by_cases h1 : c = b <;> by_cases h2 : c = a <;> simp [h1, h2] <;> simp_all
theorem put_self {S : Sto} {a : Addr} {m : MO} (h : S a = some m) : put S a m = S := by
  funext b; unfold put; split
  · rename_i e; rw [e, h]
  · rfl
theorem ne_of {S : Sto} {a b : Addr} {m : MO} (h : S a = some m) (h' : S b = none) : a ≠ b := by
  intro e; rw [e, h'] at h; cases h
theorem ne_of' {S : Sto} {a b : Addr} {m : MO} (h : S a = some m) (h' : S b = none) : b ≠ a := (ne_of h h').symm
/-- less is known -/
def Sub (S T : Sto) : Prop := ∀ a m, S a = some m → T a = some m
theorem Sub.refl (S : Sto) : Sub S S := fun _ _ h => h
theorem Sub.trans {S T U : Sto} (h : Sub S T) (g : Sub T U) : Sub S U := fun a m e => g a m (h a m e)
theorem Sub.new {S : Sto} {a : Addr} {m : MO} (h : S a = none) : Sub S (put S a m) := fun b n e => by
  rw [put_ne (ne_of e h)]; exact e
theorem Sub.put {S T : Sto} {a : Addr} {m : MO} (h : Sub S T) : Sub (put S a m) (put T a m) := fun b n e => by
  unfold VD.put at e ⊢
  split
  · rename_i q; rw [if_pos q] at e; exact e
  · rename_i q; rw [if_neg q] at e; exact h _ _ e

/-- a list that is never written: the script, or one of the written part -/
def CL (K : PySem.W.Frag) (H : Hp) (a : Addr) (xs : List V) : Prop :=
  (∃ o, H a = some (.frz o (.lst xs))) ∨
    ∃ (o : Obj) (its : Array Value) (n : Nat), K.lookup a = some o ∧ o.cls = .type "list" ∧ o.dict = none ∧ o.data = .seq its n ∧ its.size ≤ sizeLine ∧ Vals xs its.toList
theorem CL.sq {K : PySem.W.Frag} {H : Hp} {a : Addr} {xs : List V} (h : CL K H a xs) : SqL K H a xs := by
  rcases h with h | h
  · exact .inl (.inr h)
  · exact .inr h
section
variable (K : PySem.W.Frag) (H : Hp)
mutual
inductive Rep : V → Dv → Prop
  | non : Rep .non .non
  | bl (b : Bool) : Rep (.bl b) (.bl b)
  | int (i : Int) : Rep (.int i) (.int i)
  | str (x : Str) : Rep (.str x) (.str x)
  | ty (n : String) : Rep (.ty n) (.ty n)
  | ref (a : Addr) : Rep (.ref a) (.ref a)
  | tup {a : Addr} {xs : List V} {ds : List Dv} : SqT K H a xs → RepL xs ds → Rep (.ref a) (.tup ds)
  | rol {a : Addr} {xs : List V} {ds : List Dv} : CL K H a xs → RepL xs ds → Rep (.ref a) (.rol ds)
inductive RepL : List V → List Dv → Prop
  | nil : RepL [] []
  | cons {v : V} {vs : List V} {d : Dv} {ds : List Dv} : Rep v d → RepL vs ds → RepL (v :: vs) (d :: ds)
end
end
section
variable {K : PySem.W.Frag} {H H' H1 H2 : Hp}
/-- tuples stay -/
structure Tk (K : PySem.W.Frag) (H H' : Hp) : Prop where
  t : ∀ a xs, SqT K H a xs → SqT K H' a xs
  c : ∀ a xs, CL K H a xs → CL K H' a xs
theorem Tk.refl (H : Hp) : Tk K H H := ⟨fun _ _ h => h, fun _ _ h => h⟩
theorem Tk.trans (h : Tk K H H1) (g : Tk K H1 H2) : Tk K H H2 := ⟨fun a xs e => g.t a xs (h.t a xs e), fun a xs e => g.c a xs (h.c a xs e)⟩
theorem Tk.of (h : ∀ a o, H a = some o → (∀ xs, o ≠ .tup xs) ∧ (∀ ob u, o ≠ .frz ob u) ∨ H' a = some o) : Tk K H H' := ⟨fun a xs e => by
  rcases e with (e | ⟨o, e⟩) | e
  · rcases h _ _ e with ⟨q, _⟩ | q
    · exact absurd rfl (q xs)
    · exact .inl (.inl q)
  · rcases h _ _ e with ⟨_, q⟩ | q
    · exact absurd rfl (q _ _)
    · exact .inl (.inr ⟨o, q⟩)
  · exact .inr e, fun a xs e => by
  rcases e with ⟨o, e⟩ | e
  · rcases h _ _ e with ⟨_, q⟩ | q
    · exact absurd rfl (q _ _)
    · exact .inl ⟨o, q⟩
  · exact .inr e⟩
theorem Tk.new {p : Addr} {o : HO} (h : H p = none) : Tk K H (upd H p o) := Tk.of fun a u e => .inr (by rw [upd_ne (ne_of_none e h)]; exact e)
theorem Tk.same (h : Same H H') : Tk K H H' := Tk.of fun a u e => .inr (h a u e)
theorem Tk.write {p : Addr} {o u : HO} (h : H p = some u) (q : (∀ xs, u ≠ .tup xs) ∧ (∀ ob z, u ≠ .frz ob z)) : Tk K H (upd H p o) := Tk.of fun a x e => by
  by_cases z : a = p
  · subst z; rw [h] at e; cases e; exact .inl q
  · exact .inr (by rw [upd_ne z]; exact e)
mutual
theorem Rep.mono (t : Tk K H H') : ∀ {v : V} {d : Dv}, Rep K H v d → Rep K H' v d
  | _, _, .non => .non
  | _, _, .bl b => .bl b
  | _, _, .int b => .int b
  | _, _, .str b => .str b
  | _, _, .ty b => .ty b
  | _, _, .ref b => .ref b
  | _, _, .tup h l => .tup (t.t _ _ h) (RepL.mono t l)
  | _, _, .rol h l => .rol (t.c _ _ h) (RepL.mono t l)
theorem RepL.mono (t : Tk K H H') : ∀ {vs : List V} {ds : List Dv}, RepL K H vs ds → RepL K H' vs ds
  | _, _, .nil => .nil
  | _, _, .cons h l => .cons (Rep.mono t h) (RepL.mono t l)
end
theorem RepL.length : ∀ {vs : List V} {ds : List Dv}, RepL K H vs ds → vs.length = ds.length
  | _, _, .nil => rfl
  | _, _, .cons _ l => congrArg (· + 1) (RepL.length l)
theorem RepL.get : ∀ {vs : List V} {ds : List Dv} {i : Nat} {d : Dv}, RepL K H vs ds → ds[i]? = some d → ∃ v, vs[i]? = some v ∧ Rep K H v d
  | _, _, _, _, .nil, e => by simp at e
  | _, _, 0, _, .cons h _, e => by simp at e; subst e; exact ⟨_, rfl, h⟩
  | _, _, i + 1, d, .cons _ l, e => by
    obtain ⟨v, h1, h2⟩ := RepL.get (i := i) (d := d) l (by simpa using e)
    exact ⟨v, by simpa using h1, h2⟩
theorem RepL.get' : ∀ {vs : List V} {ds : List Dv} {i : Nat} {v : V}, RepL K H vs ds → vs[i]? = some v → ∃ d, ds[i]? = some d ∧ Rep K H v d
  | _, _, _, _, .nil, e => by simp at e
  | _, _, 0, _, .cons h _, e => by simp at e; subst e; exact ⟨_, rfl, h⟩
  | _, _, i + 1, d, .cons _ l, e => by
    obtain ⟨v, h1, h2⟩ := RepL.get' (i := i) (v := d) l (by simpa using e)
    exact ⟨v, by simpa using h1, h2⟩
theorem RepL.append : ∀ {vs : List V} {ds : List Dv} {us : List V} {es : List Dv}, RepL K H vs ds → RepL K H us es → RepL K H (vs ++ us) (ds ++ es)
  | _, _, _, _, .nil, q => q
  | _, _, _, _, .cons h l, q => .cons h (RepL.append l q)
theorem RepL.take : ∀ {vs : List V} {ds : List Dv} (n : Nat), RepL K H vs ds → RepL K H (vs.take n) (ds.take n)
  | _, _, 0, _ => .nil
  | _, _, _ + 1, .nil => .nil
  | _, _, n + 1, .cons h l => .cons h (RepL.take n l)
theorem RepL.drop : ∀ {vs : List V} {ds : List Dv} (n : Nat), RepL K H vs ds → RepL K H (vs.drop n) (ds.drop n)
  | _, _, 0, q => q
  | _, _, _ + 1, .nil => .nil
  | _, _, n + 1, .cons _ l => RepL.drop n l
theorem RepL.set : ∀ {vs : List V} {ds : List Dv} {v : V} {d : Dv} (n : Nat), RepL K H vs ds → Rep K H v d → RepL K H (vs.set n v) (ds.set n d)
  | _, _, _, _, _, .nil, _ => .nil
  | _, _, _, _, 0, .cons _ l, q => .cons q l
  | _, _, _, _, n + 1, .cons h l, q => .cons h (RepL.set n l q)
theorem RepL.rep {vs : List V} {ds : List Dv} (h : RepL K H vs ds) : ∀ k : Nat, RepL K H (List.replicate k vs).flatten (List.replicate k ds).flatten
  | 0 => .nil
  | k + 1 => by
    rw [List.replicate_succ, List.replicate_succ, List.flatten_cons, List.flatten_cons]
    exact h.append (RepL.rep h k)
theorem RepL.nil_iff {vs : List V} {ds : List Dv} (h : RepL K H vs ds) : vs = [] ↔ ds = [] := by
  cases h <;> simp
theorem RepL.erase : ∀ {vs : List V} {ds : List Dv} (n : Nat), RepL K H vs ds → RepL K H (vs.eraseIdx n) (ds.eraseIdx n)
  | _, _, _, .nil => .nil
  | _, _, 0, .cons _ l => l
  | _, _, n + 1, .cons h l => .cons h (RepL.erase n l)

/-! inversions -/
theorem Rep.i_non {v : V} (h : Rep K H v .non) : v = .non := by cases h; rfl
theorem Rep.i_bl {v : V} {b : Bool} (h : Rep K H v (.bl b)) : v = .bl b := by cases h; rfl
theorem Rep.i_int {v : V} {b : Int} (h : Rep K H v (.int b)) : v = .int b := by cases h; rfl
theorem Rep.i_str {v : V} {b : Str} (h : Rep K H v (.str b)) : v = .str b := by cases h; rfl
theorem Rep.i_ty {v : V} {b : String} (h : Rep K H v (.ty b)) : v = .ty b := by cases h; rfl
theorem Rep.i_ref {v : V} {b : Addr} (h : Rep K H v (.ref b)) : v = .ref b := by cases h; rfl
theorem Rep.i_tup {v : V} {ds : List Dv} (h : Rep K H v (.tup ds)) : ∃ a xs, v = .ref a ∧ SqT K H a xs ∧ RepL K H xs ds := by
  cases h with | tup h l => exact ⟨_, _, rfl, h, l⟩
theorem Rep.i_rol {v : V} {ds : List Dv} (h : Rep K H v (.rol ds)) : ∃ a xs, v = .ref a ∧ CL K H a xs ∧ RepL K H xs ds := by
  cases h with | rol h l => exact ⟨_, _, rfl, h, l⟩
theorem RepL.ints : ∀ {vs : List V} {ns : List Int}, RepL K H vs (ns.map Dv.int) → vs = ns.map V.int
  | _, [], .nil => rfl
  | _, _ :: _, .cons h l => by rw [h.i_int, RepL.ints l]; rfl
theorem RepL.bls : ∀ {vs : List V} {ns : List Bool}, RepL K H vs (ns.map Dv.bl) → vs = ns.map V.bl
  | _, [], .nil => rfl
  | _, _ :: _, .cons h l => by rw [h.i_bl, RepL.bls l]; rfl
theorem RepL.strs : ∀ {vs : List V} {ns : List Str}, RepL K H vs (ns.map Dv.str) → vs = ns.map V.str
  | _, [], .nil => rfl
  | _, _ :: _, .cons h l => by rw [h.i_str, RepL.strs l]; rfl
theorem RepL.of_ints : ∀ (ns : List Int), RepL K H (ns.map V.int) (ns.map Dv.int)
  | [] => .nil
  | i :: r => .cons (.int i) (RepL.of_ints r)
theorem RepL.of_bls : ∀ (ns : List Bool), RepL K H (ns.map V.bl) (ns.map Dv.bl)
  | [] => .nil
  | i :: r => .cons (.bl i) (RepL.of_bls r)
theorem RepL.of_strs : ∀ (ns : List Str), RepL K H (ns.map V.str) (ns.map Dv.str)
  | [] => .nil
  | i :: r => .cons (.str i) (RepL.of_strs r)
theorem RepL.cons_i {vs : List V} {d : Dv} {ds : List Dv} (h : RepL K H vs (d :: ds)) : ∃ v r, vs = v :: r ∧ Rep K H v d ∧ RepL K H r ds := by
  cases h with | cons h l => exact ⟨_, _, rfl, h, l⟩
theorem RepL.nil_i {vs : List V} (h : RepL K H vs []) : vs = [] := by cases h; rfl

/-! the store -/
def RepF (K : PySem.W.Frag) (H : Hp) : List (Str × V) → List (Str × Dv) → Prop := Paired fun p q => p.1 = q.1 ∧ Rep K H p.2 q.2
def RepK (K : PySem.W.Frag) (H : Hp) : List (Key × V) → List (Key × Dv) → Prop := Paired fun p q => p.1 = q.1 ∧ Rep K H p.2 q.2
theorem RepF.mono (t : Tk K H H') {gs : List (Str × V)} {fs : List (Str × Dv)} (h : RepF K H gs fs) : RepF K H' gs fs := Paired.mapP h fun _ _ q => ⟨q.1, q.2.mono t⟩
theorem RepK.mono (t : Tk K H H') {gs : List (Key × V)} {fs : List (Key × Dv)} (h : RepK K H gs fs) : RepK K H' gs fs := Paired.mapP h fun _ _ q => ⟨q.1, q.2.mono t⟩
def RepO (K : PySem.W.Frag) (H : Hp) (a : Addr) : MO → Prop
  | .lst ds => ∃ xs, H a = some (.lst xs) ∧ RepL K H xs ds
  | .dK kvs => ∃ gs, H a = some (.dK gs) ∧ RepK K H gs kvs
  | .ins C dx fs => ∃ gs, H a = some (.ins C dx gs) ∧ RepF K H gs fs
  | .xd fs => ∃ gs, H a = some (.xd gs) ∧ RepF K H gs fs
theorem RepO.mono (t : Tk K H H') {a : Addr} {m : MO} (e : ∀ o, H a = some o → H' a = some o) (h : RepO K H a m) : RepO K H' a m := by
  cases m with
  | lst ds => obtain ⟨gs, h1, h2⟩ := h; exact ⟨gs, e _ h1, h2.mono t⟩
  | dK kvs => obtain ⟨gs, h1, h2⟩ := h; exact ⟨gs, e _ h1, h2.mono t⟩
  | ins C dx fs => obtain ⟨gs, h1, h2⟩ := h; exact ⟨gs, e _ h1, h2.mono t⟩
  | xd fs => obtain ⟨gs, h1, h2⟩ := h; exact ⟨gs, e _ h1, h2.mono t⟩
theorem RepO.mlst {a : Addr} {xs : List V} {ds : List Dv} (h : H a = some (.lst xs)) (r : RepL K H xs ds) : RepO K H a (.lst ds) := ⟨xs, h, r⟩
theorem RepO.mdK {a : Addr} {gs : List (Key × V)} {kvs : List (Key × Dv)} (h : H a = some (.dK gs)) (r : RepK K H gs kvs) : RepO K H a (.dK kvs) := ⟨gs, h, r⟩
theorem RepO.mins {a C dx : Addr} {gs : List (Str × V)} {fs : List (Str × Dv)} (h : H a = some (.ins C dx gs)) (r : RepF K H gs fs) : RepO K H a (.ins C dx fs) := ⟨gs, h, r⟩
theorem RepO.mxd {a : Addr} {gs : List (Str × V)} {fs : List (Str × Dv)} (h : H a = some (.xd gs)) (r : RepF K H gs fs) : RepO K H a (.xd fs) := ⟨gs, h, r⟩
theorem wr_lst {ys : List V} : (∀ xs, HO.lst ys ≠ .tup xs) ∧ (∀ ob z, HO.lst ys ≠ .frz ob z) := by constructor <;> intros <;> intro h <;> cases h
theorem wr_dK {ys : List (Key × V)} : (∀ xs, HO.dK ys ≠ .tup xs) ∧ (∀ ob z, HO.dK ys ≠ .frz ob z) := by constructor <;> intros <;> intro h <;> cases h
theorem wr_ins {C dx : Addr} {ys : List (Str × V)} : (∀ xs, HO.ins C dx ys ≠ .tup xs) ∧ (∀ ob z, HO.ins C dx ys ≠ .frz ob z) := by constructor <;> intros <;> intro h <;> cases h
theorem wr_xd {ys : List (Str × V)} : (∀ xs, HO.xd ys ≠ .tup xs) ∧ (∀ ob z, HO.xd ys ≠ .frz ob z) := by constructor <;> intros <;> intro h <;> cases h
theorem RepO.there {a : Addr} {m : MO} (h : RepO K H a m) : ∃ o, H a = some o := by
  cases m with
  | lst ds => obtain ⟨gs, h1, h2⟩ := h; exact ⟨_, h1⟩
  | dK kvs => obtain ⟨gs, h1, h2⟩ := h; exact ⟨_, h1⟩
  | ins C dx fs => obtain ⟨gs, h1, h2⟩ := h; exact ⟨_, h1⟩
  | xd fs => obtain ⟨gs, h1, h2⟩ := h; exact ⟨_, h1⟩
def Abs (K : PySem.W.Frag) (H : Hp) (S : Sto) : Prop := ∀ a m, S a = some m → RepO K H a m
theorem Abs.sub {S T : Sto} (h : Abs K H T) (s : Sub S T) : Abs K H S := fun a m e => h a m (s a m e)
theorem Abs.free {S : Sto} (h : Abs K H S) {p : Addr} (n : H p = none) : S p = none := by
  cases e : S p with
  | none => rfl
  | some m =>
    obtain ⟨o, q⟩ := (h p m e).there
    rw [n] at q; cases q
theorem Abs.new {S : Sto} {p : Addr} {o : HO} {m : MO} (h : Abs K H S) (n : H p = none) (q : RepO K (upd H p o) p m) : Abs K (upd H p o) (put S p m) := fun a k e => by
  by_cases z : a = p
  · subst z; rw [put_same] at e; cases e; exact q
  · rw [put_ne z] at e
    exact (h a k e).mono (Tk.new n) fun u hu => by rw [upd_ne z]; exact hu
theorem Abs.tup {S : Sto} {p : Addr} {o : HO} (h : Abs K H S) (n : H p = none) : Abs K (upd H p o) S := fun a k e =>
  (h a k e).mono (Tk.new n) fun u hu => by rw [upd_ne (ne_of_none hu n)]; exact hu
theorem Abs.write {S : Sto} {p : Addr} {o u : HO} {m : MO} (h : Abs K H S) (e : H p = some u) (q : (∀ xs, u ≠ .tup xs) ∧ (∀ ob z, u ≠ .frz ob z)) (r : RepO K (upd H p o) p m) : Abs K (upd H p o) (put S p m) := fun a k ek => by
  by_cases z : a = p
  · subst z; rw [put_same] at ek; cases ek; exact r
  · rw [put_ne z] at ek
    exact (h a k ek).mono (Tk.write e q) fun v hv => by rw [upd_ne z]; exact hv
/-- what is stored is in the heap or in the written part -/
theorem Abs.same {S : Sto} (h : Abs K H S) (e : Same H H') : Abs K H' S := fun a m q => (h a m q).mono (Tk.same e) (e a)
end

/-! slots -/
structure RepS (K : PySem.W.Frag) (H : Hp) (σ : L2.St) (ρ : Rho) : Prop where
  len : σ.length = ρ.length
  at_ : ∀ (i : Nat) (d : Dv), ρ[i]? = some (some d) → ∃ v, σ[i]? = some (some v) ∧ Rep K H v d
section
variable {K : PySem.W.Frag} {H H' : Hp} {σ : L2.St} {ρ : Rho}
theorem RepS.mono (t : Tk K H H') (h : RepS K H σ ρ) : RepS K H' σ ρ := ⟨h.len, fun i d e => by
  obtain ⟨v, h1, h2⟩ := h.at_ i d e
  exact ⟨v, h1, h2.mono t⟩⟩
theorem RepS.set {v : V} {d : Dv} (h : RepS K H σ ρ) (i : Nat) (r : Rep K H v d) : RepS K H (σ.set i (some v)) (ρ.set i (some d)) := by
  refine ⟨by simp [h.len], fun j e q => ?_⟩
  by_cases hj : i = j
  · subst hj
    by_cases hl : i < ρ.length
    · rw [List.getElem?_set_self hl] at q
      cases q
      exact ⟨v, List.getElem?_set_self (by rw [h.len]; exact hl), r⟩
    · rw [List.getElem?_eq_none (by simp; omega)] at q; cases q
  · rw [List.getElem?_set_ne hj] at q ⊢
    exact h.at_ j e q
theorem RepS.setN (h : RepS K H σ ρ) (i : Nat) : RepS K H (σ.set i none) (ρ.set i none) := by
  refine ⟨by simp [h.len], fun j e q => ?_⟩
  by_cases hj : i = j
  · subst hj
    by_cases hl : i < ρ.length
    · rw [List.getElem?_set_self hl] at q; cases q
    · rw [List.getElem?_eq_none (by simp; omega)] at q; cases q
  · rw [List.getElem?_set_ne hj] at q ⊢
    exact h.at_ j e q
def wipeD (ρ : Rho) : List Nat → Rho
  | [] => ρ
  | v :: vs => (wipeD ρ vs).set v none
theorem RepS.wipe (h : RepS K H σ ρ) : ∀ vs, RepS K H (wipe σ vs) (wipeD ρ vs)
  | [] => h
  | v :: vs => (RepS.wipe h vs).setN v
def startD (N : List Str) (ds : List Dv) : Rho := ds.map some ++ List.replicate (N.length - ds.length) none
theorem RepS.start {N : List Str} : ∀ {vs : List V} {ds : List Dv}, RepL K H vs ds → RepS K H (start N vs) (startD N ds) := fun {vs ds} r => by
  have hl := r.length
  refine ⟨by simp [L2.start, startD, hl], fun i d e => ?_⟩
  unfold startD at e
  unfold L2.start
  by_cases hi : i < ds.length
  · rw [List.getElem?_append_left (by simpa using hi), List.getElem?_map] at e
    obtain ⟨d', e1, e2⟩ : ∃ d', ds[i]? = some d' ∧ d' = d := by
      cases q : ds[i]? with
      | none => rw [q] at e; cases e
      | some d' => rw [q] at e; cases e; exact ⟨_, rfl, rfl⟩
    subst e2
    obtain ⟨v, h1, h2⟩ := r.get e1
    exact ⟨v, by rw [List.getElem?_append_left (by simp; omega), List.getElem?_map, h1]; rfl, h2⟩
  · rw [List.getElem?_append_right (by simpa using hi)] at e
    rw [List.getElem?_replicate] at e
    split at e <;> cases e
end
end VD

namespace VD
open PySem PySem.Spec PyProof.Rows L2

abbrev QD := Dv → Sto → Prop
abbrev XD := Value → Option Addr → Sto → Prop
abbrev DE := Rho → Sto → QD → XD → Prop
abbrev DT := Rho → Sto → (Bool → Sto → Prop) → XD → Prop
abbrev DA := Rho → Sto → (List Dv → Sto → Prop) → XD → Prop
abbrev DO := Rho → Sto → (Option Int → Sto → Prop) → XD → Prop
structure DEnds where
  nx : Rho → Sto → Prop
  rt : Dv → Sto → Prop
  bk : Rho → Sto → Prop := fun _ _ => False
  ct : Rho → Sto → Prop := fun _ _ => False
  ex : Value → Option Addr → Rho → Sto → Prop := fun _ _ _ _ => False
abbrev DS := DEnds → Rho → Sto → Prop
abbrev W0 : WX := fun _ _ _ _ => False
abbrev X0 : XD := fun _ _ _ => False

section
variable (K : PySem.W.Frag) (W : WX)
def Lk (H : Hp) (Qh : QD) (Q : VK) : Prop := ∀ d S' v H', Qh d S' → Tk K H H' → Rep K H' v d → Abs K H' S' → Q v H'
def LkT (H : Hp) (Qh : Bool → Sto → Prop) (Q : Bool → Hp → Prop) : Prop := ∀ b S' H', Qh b S' → Tk K H H' → Abs K H' S' → Q b H'
def LkA (H : Hp) (Qh : List Dv → Sto → Prop) (Q : List V → Hp → Prop) : Prop := ∀ ds S' vs H', Qh ds S' → Tk K H H' → RepL K H' vs ds → Abs K H' S' → Q vs H'
def LkO (H : Hp) (Qh : Option Int → Sto → Prop) (Q : Option Int → Hp → Prop) : Prop := ∀ o S' H', Qh o S' → Tk K H H' → Abs K H' S' → Q o H'
def LkG (H : Hp) (Qh : Rho → Sto → Prop) (Q : L2.St → Hp → Prop) : Prop := ∀ ρ' S' σ' H', Qh ρ' S' → Tk K H H' → RepS K H' σ' ρ' → Abs K H' S' → Q σ' H'
def Lx (σ : L2.St) (H : Hp) (Xh : XD) : Prop := ∀ c da S' H', Xh c da S' → Tk K H H' → Abs K H' S' → W c da σ H'
structure LkS (H : Hp) (Dh : DEnds) (D : Ends) : Prop where
  nx : LkG K H Dh.nx D.nx
  rt : Lk K H Dh.rt D.rt
  bk : LkG K H Dh.bk D.bk
  ct : LkG K H Dh.ct D.ct
  ex : ∀ c da, LkG K H (Dh.ex c da) (W c da)
def low (de : DE) : TE := fun σ H Q => ∃ ρ S Qh Xh, RepS K H σ ρ ∧ Abs K H S ∧ de ρ S Qh Xh ∧ Lk K H Qh Q ∧ Lx K W σ H Xh
def lowT (dt : DT) : TT := fun σ H Q => ∃ ρ S Qh Xh, RepS K H σ ρ ∧ Abs K H S ∧ dt ρ S Qh Xh ∧ LkT K H Qh Q ∧ Lx K W σ H Xh
def lowA (da : DA) : TA := fun σ H Q => ∃ ρ S Qh Xh, RepS K H σ ρ ∧ Abs K H S ∧ da ρ S Qh Xh ∧ LkA K H Qh Q ∧ Lx K W σ H Xh
def lowO (da : DO) : TO := fun σ H Q => ∃ ρ S Qh Xh, RepS K H σ ρ ∧ Abs K H S ∧ da ρ S Qh Xh ∧ LkO K H Qh Q ∧ Lx K W σ H Xh
def lowS (ds : DS) : TS := fun D σ H => ∃ ρ S Dh, RepS K H σ ρ ∧ Abs K H S ∧ ds Dh ρ S ∧ LkS K W H Dh D
end
section
variable {K : PySem.W.Frag} {W : WX} {H H1 : Hp} {σ : L2.St}
theorem Lk.mono {Qh : QD} {Q : VK} (k : Lk K H Qh Q) (t : Tk K H H1) : Lk K H1 Qh Q := fun d S v H' q t' => k d S v H' q (t.trans t')
theorem LkT.mono {Qh : Bool → Sto → Prop} {Q : Bool → Hp → Prop} (k : LkT K H Qh Q) (t : Tk K H H1) : LkT K H1 Qh Q := fun d S H' q t' => k d S H' q (t.trans t')
theorem LkA.mono {Qh : List Dv → Sto → Prop} {Q : List V → Hp → Prop} (k : LkA K H Qh Q) (t : Tk K H H1) : LkA K H1 Qh Q := fun d S v H' q t' => k d S v H' q (t.trans t')
theorem LkO.mono {Qh : Option Int → Sto → Prop} {Q : Option Int → Hp → Prop} (k : LkO K H Qh Q) (t : Tk K H H1) : LkO K H1 Qh Q := fun d S H' q t' => k d S H' q (t.trans t')
theorem LkG.mono {Qh : Rho → Sto → Prop} {Q : L2.St → Hp → Prop} (k : LkG K H Qh Q) (t : Tk K H H1) : LkG K H1 Qh Q := fun d S v H' q t' => k d S v H' q (t.trans t')
theorem Lx.mono {Xh : XD} (k : Lx K W σ H Xh) (t : Tk K H H1) : Lx K W σ H1 Xh := fun c d S H' q t' => k c d S H' q (t.trans t')
theorem LkS.mono {Dh : DEnds} {D : Ends} (k : LkS K W H Dh D) (t : Tk K H H1) : LkS K W H1 Dh D := ⟨k.nx.mono t, k.rt.mono t, k.bk.mono t, k.ct.mono t, fun c d => (k.ex c d).mono t⟩
theorem Lk.now {Qh : QD} {Q : VK} (k : Lk K H Qh Q) {d : Dv} {S : Sto} {v : V} (q : Qh d S) (r : Rep K H v d) (a : Abs K H S) : Q v H := k d S v H q (Tk.refl H) r a
end

/-! weaker readings -/
section
variable {X : Cx}
theorem pei {e : Expr} {t t' : TE} (h : PE X e t) (i : ∀ σ H Q, t' σ H Q → t σ H Q) : PE X e t' := ⟨fun pins s σ H Q I q => h.run pins s σ H Q I (i σ H Q q)⟩
theorem pti {e : Expr} {t t' : TT} (h : PT X e t) (i : ∀ σ H Q, t' σ H Q → t σ H Q) : PT X e t' := ⟨fun pins s σ H Q I q => h.run pins s σ H Q I (i σ H Q q)⟩
theorem pwi {e : Expr} {t t' : TT} (h : PW X e t) (i : ∀ σ H Q, t' σ H Q → t σ H Q) : PW X e t' := ⟨fun wh pins s σ H Q I q => h.run wh pins s σ H Q I (i σ H Q q)⟩
theorem pai {e : List Expr} {t t' : TA} (h : PA X e t) (i : ∀ σ H Q, t' σ H Q → t σ H Q) : PA X e t' := ⟨fun pos pins s σ H Q I q => h.run pos pins s σ H Q I (i σ H Q q)⟩
theorem poi {e : Option Expr} {t t' : TO} (h : PO X e t) (i : ∀ σ H Q, t' σ H Q → t σ H Q) : PO X e t' := ⟨fun pins s σ H Q I q => h.run pins s σ H Q I (i σ H Q q)⟩
theorem psi {e : Stmt} {t t' : TS} (h : PS X e t) (i : ∀ D σ H, t' D σ H → t D σ H) : PS X e t' := ⟨fun pins s σ H D I q => h.run pins s σ H D I (i D σ H q)⟩
theorem pssi {e : List Stmt} {t t' : TS} (h : PSs X e t) (i : ∀ D σ H, t' D σ H → t D σ H) : PSs X e t' := ⟨fun pins s σ H D I q => h.run pins s σ H D I (i D σ H q)⟩
end

section
variable {X : Cx} {W : WX} {a b c e : Expr} {da db dc de : DE} {pos : Pos} {es : List Expr} {das : DA}

/-! names, constants -/
def dVar (i : Nat) : DE := fun ρ S Q _ => ∃ d, ρ[i]? = some (some d) ∧ Q d S
def dC (d : Dv) : DE := fun _ S Q _ => Q d S
theorem low_var (i : Nat) : ∀ σ H Q, low X.K W (dVar i) σ H Q → tVar i σ H Q := fun σ H Q ⟨ρ, S, Qh, Xh, hσ, hS, h, k, x⟩ => by
  obtain ⟨d, e, q⟩ := h
  obtain ⟨v, e', r⟩ := hσ.at_ i d e
  exact ⟨v, e', k.now q r hS⟩
theorem dv (i : Nat) {x : Str} {pos : Pos} (hN : X.N[i]? = some x := by rfl) (hv : Vis X.env.scope x := by first | exact Or.inl rfl | exact Or.inr (Or.inl rfl) | exact Or.inr (Or.inr rfl)) (hd : (x == ("__debug__" : Str)) = false := by decide)
    (hcd : (x == ("__classdict__" : Str)) = false := by decide) : PE X (.Name x pos) (low X.K W (dVar i)) := pei (pv i hN hv hd hcd) (low_var i)
theorem low_c {v : V} {d : Dv} (r : ∀ H, Rep X.K H v d) : ∀ σ H Q, low X.K W (dC d) σ H Q → tC v σ H Q := fun σ H Q ⟨ρ, S, Qh, Xh, hσ, hS, h, k, x⟩ => k.now h (r H) hS
theorem d_int {i j pos} : PE X (.Constant (.int i) j pos) (low X.K W (dC (.int i))) := pei pe_int (low_c fun _ => .int i)
theorem d_bl {b j pos} : PE X (.Constant (.bool b) j pos) (low X.K W (dC (.bl b))) := pei pe_bl (low_c fun _ => .bl b)
theorem d_non {j pos} : PE X (.Constant .none j pos) (low X.K W (dC .non)) := pei pe_non (low_c fun _ => .non)
theorem d_str {x j pos} : PE X (.Constant (.str x) j pos) (low X.K W (dC (.str x))) := pei pe_str (low_c fun _ => .str x)
/-- a written value as data -/
inductive VRep (K : PySem.W.Frag) : Value → Dv → Prop
  | mk {u : Value} {v : V} {d : Dv} (r : RelV v u) (h : ∀ H, Rep K H v d) : VRep K u d
theorem d_glob {x : Str} {u : Value} {d : Dv} {pos : Pos} (hm : X.mg x = some u) (r : VRep X.K u d) (hg : Gl X x := by rfl) (hd : (x == ("__debug__" : Str)) = false := by decide) : PE X (.Name x pos) (low X.K W (dC d)) := by
  cases r with | mk r h => exact pei (pe_glob hg hm r hd) (low_c h)
theorem d_bltn {x : Str} {v : V} {u : Value} {d : Dv} {pos : Pos} (hm : X.mg x = none) (hv : bootBuiltins x = some u) (r : RelV v u) (h : ∀ H, Rep X.K H v d) (hg : Gl X x := by rfl) (hn : x ≠ "__name__" := by decide) (hd : (x == ("__debug__" : Str)) = false := by decide) :
    PE X (.Name x pos) (low X.K W (dC d)) := pei (pe_bltn hg hm hv r hn hd) (low_c h)

/-! arguments -/
def dNil : DA := fun _ S Q _ => Q [] S
def dCons (da : DE) (dr : DA) : DA := fun ρ S Q X => da ρ S (fun x S1 => dr ρ S1 (fun xs S2 => Q (x :: xs) S2) X) X
theorem da_nil : PA X [] (lowA X.K W dNil) := pai pa_nil fun σ H Q ⟨ρ, S, Qh, Xh, hσ, hS, h, k, x⟩ => k [] S [] H h (Tk.refl H) .nil hS
theorem da_cons (ha : PE X e (low X.K W de)) (hr : PA X es (lowA X.K W das)) (hs : starEach (e :: es) X.env = (false, eval e X.env) :: starEach es X.env := by rfl) : PA X (e :: es) (lowA X.K W (dCons de das)) :=
  pai (pa_cons ha hr hs) fun σ H Q ⟨ρ, S, Qh, Xh, hσ, hS, h, k, x⟩ => ⟨ρ, S, _, Xh, hσ, hS, h, fun d S1 v H1 q1 t1 r1 a1 => ⟨ρ, S1, _, Xh, hσ.mono t1, a1, q1, fun ds S2 vs H2 q2 t2 r2 a2 => k _ S2 _ H2 q2 (t1.trans t2) (.cons (r1.mono t2) r2) a2, x.mono t1⟩, x⟩

/-! two-place operators -/
abbrev RD2 := Dv → Dv → Sto → QD → Prop
def LR2 (K : PySem.W.Frag) (r : R2) (rd : RD2) : Prop := ∀ x y H dx dy S Qh Q, Rep K H x dx → Rep K H y dy → Abs K H S → rd dx dy S Qh → Lk K H Qh Q → r x y H Q
def dOp (rd : RD2) (da db : DE) : DE := fun ρ S Q X => da ρ S (fun x S1 => db ρ S1 (fun y S2 => rd x y S2 Q) X) X
theorem low_op {r : R2} {rd : RD2} (hl : LR2 X.K r rd) : ∀ σ H Q, low X.K W (dOp rd da db) σ H Q → tOp r (low X.K W da) (low X.K W db) σ H Q := fun σ H Q ⟨ρ, S, Qh, Xh, hσ, hS, h, k, x⟩ =>
  ⟨ρ, S, _, Xh, hσ, hS, h, fun d1 S1 v1 H1 q1 t1 r1 a1 => ⟨ρ, S1, _, Xh, hσ.mono t1, a1, q1, fun d2 S2 v2 H2 q2 t2 r2 a2 => hl v1 v2 H2 d1 d2 S2 Qh Q (r1.mono t2) r2 a2 q2 (k.mono (t1.trans t2)), x.mono t1⟩, x⟩
theorem d_op {op : Operator} {r : R2} {rd : RD2} (ho : OpR X (binaryOp op) r) (hl : LR2 X.K r rd) (ha : PE X a (low X.K W da)) (hb : PE X b (low X.K W db)) : PE X (.BinOp a op b pos) (low X.K W (dOp rd da db)) := pei (pe_op ho ha hb) (low_op hl)
theorem d_cmp {op : CmpOp} {r : R2} {rd : RD2} (ho : OpR X (compareOp op) r) (hl : LR2 X.K r rd) (ha : PE X a (low X.K W da)) (hb : PE X b (low X.K W db)) (hm : behindInMarks op b = false := by first | exact nomark _ | rfl) :
    PE X (.Compare a [op] [b] pos) (low X.K W (dOp rd da db)) := pei (pe_cmpR ho ha hb hm) (low_op hl)
/-- an expression's truth, a bool -/
def dTest (de : DE) : DT := fun ρ S Q X => de ρ S (fun x S1 => match x with | .bl b => Q b S1 | _ => False) X
theorem low_tB {σ H} {Q : Bool → Hp → Prop} : lowT X.K W (dTest de) σ H Q → (low X.K W de) σ H (fun x H1 => ∃ c, x = .bl c ∧ Q c H1) := fun ⟨ρ, S, Qh, Xh, hσ, hS, h, k, x⟩ =>
  ⟨ρ, S, _, Xh, hσ, hS, h, fun d1 S1 v1 H1 q1 t1 r1 a1 => by
    cases d1 with
    | bl b => exact ⟨b, r1.i_bl, k b S1 H1 q1 t1 a1⟩
    | _ => exact q1.elim, x⟩
theorem t_cmp {op : CmpOp} {r : R2} {rd : RD2} (ho : OpR X (compareOp op) r) (hl : LR2 X.K r rd) (ha : PE X a (low X.K W da)) (hb : PE X b (low X.K W db)) (hm : behindInMarks op b = false := by first | exact nomark _ | rfl) :
    PT X (.Compare a [op] [b] pos) (lowT X.K W (dTest (dOp rd da db))) := pti (pt_cmpR ho ha hb hm) fun σ H Q h => by
  obtain ⟨ρ, S, Qh, Xh, hσ, hS, h, k, x⟩ := low_tB h
  exact low_op hl σ H _ ⟨ρ, S, Qh, Xh, hσ, hS, h, k, x⟩
theorem t_val (h : PE X e (low X.K W de)) (he : ∀ whole, isTrue e X.env whole = (do let v ← whole; standAt e.pos; holding [v] (truthy v)) := by intro _; rfl) : PT X e (lowT X.K W (dTest de)) := pti (pt_val h he) fun σ H Q q => low_tB q
def dChain (r r' : RD2) (da db dc : DE) : DE := fun ρ S Q X => da ρ S (fun x S1 => db ρ S1 (fun y S2 => r x y S2 fun z S3 => match z with
  | .bl true => dc ρ S3 (fun u S4 => r' y u S4 Q) X
  | .bl false => Q (.bl false) S3
  | _ => False) X) X
end

/-! builtins -/
abbrev RDC := List Dv → Sto → QD → Prop
def LRC (K : PySem.W.Frag) (r : List V → Hp → VK → Prop) (rd : RDC) : Prop := ∀ vs H ds S Qh Q, RepL K H vs ds → Abs K H S → rd ds S Qh → Lk K H Qh Q → r vs H Q
def dCB (rd : RDC) (das : DA) : DE := fun ρ S Q X => das ρ S (fun ds S1 => rd ds S1 Q) X
section
variable {X : Cx} {W : WX} {a b c e : Expr} {da db dc de : DE} {pos p : Pos} {es : List Expr} {das : DA} {x : Str} {id T : String} {r : List V → Hp → VK → Prop} {rd : RDC}
theorem low_cb (hl : LRC X.K r rd) : ∀ σ H Q, low X.K W (dCB rd das) σ H Q → tCB r (lowA X.K W das) σ H Q := fun σ H Q ⟨ρ, S, Qh, Xh, hσ, hS, h, k, x⟩ =>
  ⟨ρ, S, _, Xh, hσ, hS, h, fun ds S1 vs H1 q1 t1 r1 a1 => hl vs H1 ds S1 Qh Q r1 a1 q1 (k.mono t1), x⟩
theorem d_callB (hc : CallR X (.builtin id) r) (hl : LRC X.K r rd) (hm : X.mg x = none) (hv : bootBuiltins x = some (.builtin id)) (ha : PA X (e :: es) (lowA X.K W das)) (hg : Gl X x := by rfl) (hn : x ≠ "__name__" := by decide) (hdb : (x == ("__debug__" : Str)) = false := by decide)
    (he : starEach (e :: es) X.env = (false, eval e X.env) :: starEach es X.env := by rfl) (hpl : (backTo pos (starEach es X.env)).any (·.1) = false := by rfl) : PE X (.Call (.Name x p) (e :: es) [] pos) (low X.K W (dCB rd das)) := pei (pe_callB hc hg hm hv ha hn hdb he hpl) (low_cb hl)
theorem d_callTy (hc : CallR X (.type T) r) (hl : LRC X.K r rd) (hm : X.mg x = none) (hv : bootBuiltins x = some (.type T)) (ha : PA X (e :: es) (lowA X.K W das)) (hg : Gl X x := by rfl) (hn : x ≠ "__name__" := by decide) (hdb : (x == ("__debug__" : Str)) = false := by decide)
    (he : starEach (e :: es) X.env = (false, eval e X.env) :: starEach es X.env := by rfl) (hpl : (backTo pos (starEach es X.env)).any (·.1) = false := by rfl) : PE X (.Call (.Name x p) (e :: es) [] pos) (low X.K W (dCB rd das)) := pei (pe_callTy hc hg hm hv ha hn hdb he hpl) (low_cb hl)

/-! own defs -/
abbrev SpD := List Dv → Sto → QD → XD → Prop
def LxE (K : PySem.W.Frag) (H : Hp) (Xh : XD) (E : XK) : Prop := ∀ c da S' H', Xh c da S' → Tk K H H' → Abs K H' S' → E c da H'
def lowF (K : PySem.W.Frag) (sp : SpD) : Sp := fun vs H Q E => ∃ ds S Qh Xh, RepL K H vs ds ∧ Abs K H S ∧ sp ds S Qh Xh ∧ Lk K H Qh Q ∧ LxE K H Xh E
def dCall (sp : SpD) (das : DA) : DE := fun ρ S Q X => das ρ S (fun ds S1 => sp ds S1 Q X) X
variable {sp : SpD} {k : Nat} {f : Addr} {fd : FuncData} {ps : List Str}
abbrev FnD (P : Program) (w : World) (K : PySem.W.Frag) (mg : Str → Option Value) (base : Heap) (k : Nat) (f : Addr) (fd : FuncData) (ps : List Str) (sp : SpD) : Prop := FnOk P w K mg base (L2.CX P w) k f fd ps (lowF K sp)
theorem d_call (F : FnD X.prog X.w X.K X.mg X.base k f fd ps sp) (hr : Room k X.A) (hm : X.mg x = some (.ref f)) (hk : PySem.W.keepIn X.K (.ref f) = true) (hb : Binds X.K fd ps []) (tk : Takes X W) (ha : PA X (e :: es) (lowA X.K W das))
    (hg : Gl X x := by rfl) (hdb : (x == ("__debug__" : Str)) = false := by decide) (he : starEach (e :: es) X.env = (false, eval e X.env) :: starEach es X.env := by rfl) (hpl : (backTo pos (starEach es X.env)).any (·.1) = false := by rfl) :
    PE X (.Call (.Name x p) (e :: es) [] pos) (low X.K W (dCall sp das)) :=
  pei (pe_callS F hr hg hm hk hb (fun σ => passAt tk σ) ha hdb he hpl) fun σ H Q ⟨ρ, S, Qh, Xh, hσ, hS, h, k, x⟩ => ⟨ρ, S, _, Xh, hσ, hS, h, fun ds S1 vs H1 q1 t1 r1 a1 => ⟨ds, S1, Qh, Xh, r1, a1, q1, k.mono t1, x.mono t1⟩, x⟩
end

/-! and, or, not, if as values and as tests -/
section
variable {X : Cx} {W : WX} {a b c e : Expr} {da db dc de : DE} {pos : Pos} {rest : List Expr} {ta tb : DT}
def dAndV (da db : DE) : DE := fun ρ S Q X => da ρ S (fun x S1 => match x with | .bl true => db ρ S1 Q X | .bl false => Q (.bl false) S1 | _ => False) X
def dOrV (da db : DE) : DE := fun ρ S Q X => da ρ S (fun x S1 => match x with | .bl true => Q (.bl true) S1 | .bl false => db ρ S1 Q X | _ => False) X
def dNotV (da : DE) : DE := fun ρ S Q X => da ρ S (fun x S1 => match x with | .bl b => Q (.bl (!b)) S1 | _ => False) X
def dIf (t : DT) (da db : DE) : DE := fun ρ S Q X => t ρ S (fun b S1 => if b = true then da ρ S1 Q X else db ρ S1 Q X) X
theorem d_one {op} (h : PE X a (low X.K W da)) : PE X (.BoolOp op [a] pos) (low X.K W da) := pe_one h
theorem d_and (ha : PE X a (low X.K W da)) (hb : PE X (.BoolOp .And (b :: rest) pos) (low X.K W db)) : PE X (.BoolOp .And (a :: b :: rest) pos) (low X.K W (dAndV da db)) := pei (pe_and ha hb) fun σ H Q ⟨ρ, S, Qh, Xh, hσ, hS, h, k, x⟩ =>
  ⟨ρ, S, _, Xh, hσ, hS, h, fun d1 S1 v1 H1 q1 t1 r1 a1 => by
    cases d1 with
    | bl b =>
      refine ⟨b, r1.i_bl, ?_⟩
      cases b with
      | true => exact ⟨ρ, S1, Qh, Xh, hσ.mono t1, a1, q1, k.mono t1, x.mono t1⟩
      | false => exact (k.mono t1).now q1 (.bl false) a1
    | _ => exact q1.elim, x⟩
theorem d_or (ha : PE X a (low X.K W da)) (hb : PE X (.BoolOp .Or (b :: rest) pos) (low X.K W db)) : PE X (.BoolOp .Or (a :: b :: rest) pos) (low X.K W (dOrV da db)) := pei (pe_or ha hb) fun σ H Q ⟨ρ, S, Qh, Xh, hσ, hS, h, k, x⟩ =>
  ⟨ρ, S, _, Xh, hσ, hS, h, fun d1 S1 v1 H1 q1 t1 r1 a1 => by
    cases d1 with
    | bl b =>
      refine ⟨b, r1.i_bl, ?_⟩
      cases b with
      | false => exact ⟨ρ, S1, Qh, Xh, hσ.mono t1, a1, q1, k.mono t1, x.mono t1⟩
      | true => exact (k.mono t1).now q1 (.bl true) a1
    | _ => exact q1.elim, x⟩
theorem d_not (ha : PE X a (low X.K W da)) : PE X (.UnaryOp .Not a pos) (low X.K W (dNotV da)) := pei (pe_not ha) fun σ H Q ⟨ρ, S, Qh, Xh, hσ, hS, h, k, x⟩ =>
  ⟨ρ, S, _, Xh, hσ, hS, h, fun d1 S1 v1 H1 q1 t1 r1 a1 => by
    cases d1 with
    | bl b => exact ⟨b, r1.i_bl, (k.mono t1).now q1 (.bl _) a1⟩
    | _ => exact q1.elim, x⟩
theorem d_ifExp (hc : PT X c (lowT X.K W ta)) (ha : PE X a (low X.K W da)) (hb : PE X b (low X.K W db)) : PE X (.IfExp c a b pos) (low X.K W (dIf ta da db)) := pei (pe_ifExp hc ha hb) fun σ H Q ⟨ρ, S, Qh, Xh, hσ, hS, h, k, x⟩ =>
  ⟨ρ, S, _, Xh, hσ, hS, h, fun b S1 H1 q1 t1 a1 => by
    cases b with
    | true => exact ⟨ρ, S1, Qh, Xh, hσ.mono t1, a1, q1, k.mono t1, x.mono t1⟩
    | false => exact ⟨ρ, S1, Qh, Xh, hσ.mono t1, a1, q1, k.mono t1, x.mono t1⟩, x⟩
def dAndT (t u : DT) : DT := fun ρ S Q X => t ρ S (fun b S1 => if b = true then u ρ S1 Q X else Q false S1) X
def dOrT (t u : DT) : DT := fun ρ S Q X => t ρ S (fun b S1 => if b = true then Q true S1 else u ρ S1 Q X) X
def dNotT (t : DT) : DT := fun ρ S Q X => t ρ S (fun b S1 => Q (!b) S1) X
theorem t_and1 (ha : PT X a (lowT X.K W ta)) : PW X (.BoolOp .And [a] pos) (lowT X.K W ta) := pw_and1 ha
theorem t_or1 (ha : PT X a (lowT X.K W ta)) : PW X (.BoolOp .Or [a] pos) (lowT X.K W ta) := pw_or1 ha
theorem t_and (ha : PT X a (lowT X.K W ta)) (hb : PW X (.BoolOp .And (b :: rest) pos) (lowT X.K W tb)) : PW X (.BoolOp .And (a :: b :: rest) pos) (lowT X.K W (dAndT ta tb)) := pwi (pw_and ha hb) fun σ H Q ⟨ρ, S, Qh, Xh, hσ, hS, h, k, x⟩ =>
  ⟨ρ, S, _, Xh, hσ, hS, h, fun b S1 H1 q1 t1 a1 => by
    cases b with
    | true => exact ⟨ρ, S1, Qh, Xh, hσ.mono t1, a1, q1, k.mono t1, x.mono t1⟩
    | false => exact k _ S1 H1 q1 t1 a1, x⟩
theorem t_or (ha : PT X a (lowT X.K W ta)) (hb : PW X (.BoolOp .Or (b :: rest) pos) (lowT X.K W tb)) : PW X (.BoolOp .Or (a :: b :: rest) pos) (lowT X.K W (dOrT ta tb)) := pwi (pw_or ha hb) fun σ H Q ⟨ρ, S, Qh, Xh, hσ, hS, h, k, x⟩ =>
  ⟨ρ, S, _, Xh, hσ, hS, h, fun b S1 H1 q1 t1 a1 => by
    cases b with
    | true => exact k _ S1 H1 q1 t1 a1
    | false => exact ⟨ρ, S1, Qh, Xh, hσ.mono t1, a1, q1, k.mono t1, x.mono t1⟩, x⟩
theorem t_not (ha : PT X a (lowT X.K W ta)) : PT X (.UnaryOp .Not a pos) (lowT X.K W (dNotT ta)) := pti (pt_not ha) fun σ H Q ⟨ρ, S, Qh, Xh, hσ, hS, h, k, x⟩ =>
  ⟨ρ, S, _, Xh, hσ, hS, h, fun b S1 H1 q1 t1 a1 => k _ S1 H1 q1 t1 a1, x⟩
theorem d_chain {op op' : CmpOp} {r r' : R2} {rd rd' : RD2} (ho : OpR X (compareOp op) r) (hl : LR2 X.K r rd) (ho' : OpR X (compareOp op') r') (hl' : LR2 X.K r' rd') (ha : PE X a (low X.K W da)) (hb : PE X b (low X.K W db)) (hc : PE X c (low X.K W dc))
    (hm : lastMarks [op, op'] [b, c] = false := by with_unfolding_all rfl) : PE X (.Compare a [op, op'] [b, c] pos) (low X.K W (dChain rd rd' da db dc)) :=
  pei (pe_chain ho ho' ha hb hc hm) fun σ H Q ⟨ρ, S, Qh, Xh, hσ, hS, h, k, x⟩ =>
  ⟨ρ, S, _, Xh, hσ, hS, h, fun d1 S1 v1 H1 q1 t1 r1 a1 => ⟨ρ, S1, _, Xh, hσ.mono t1, a1, q1, fun d2 S2 v2 H2 q2 t2 r2 a2 => hl v1 v2 H2 d1 d2 S2 _ _ (r1.mono t2) r2 a2 q2 fun d3 S3 v3 H3 q3 t3 r3 a3 => by
    cases d3 with
    | bl b =>
      refine ⟨b, r3.i_bl, ?_⟩
      cases b with
      | true =>
        refine iteT ⟨ρ, S3, _, Xh, hσ.mono ((t1.trans t2).trans t3), a3, q3, fun d4 S4 v4 H4 q4 t4 r4 a4 => hl' v2 v4 H4 d2 d4 S4 Qh Q (r2.mono (t3.trans t4)) r4 a4 q4 (k.mono (((t1.trans t2).trans t3).trans t4)), x.mono ((t1.trans t2).trans t3)⟩
      | false => exact iteF ((k.mono ((t1.trans t2).trans t3)).now q3 (.bl false) a3)
    | _ => exact q3.elim, x.mono t1⟩, x⟩
theorem t_chain {op op' : CmpOp} {r r' : R2} {rd rd' : RD2} (ho : OpR X (compareOp op) r) (hl : LR2 X.K r rd) (ho' : OpR X (compareOp op') r') (hl' : LR2 X.K r' rd') (ha : PE X a (low X.K W da)) (hb : PE X b (low X.K W db)) (hc : PE X c (low X.K W dc))
    (hm : lastMarks [op, op'] [b, c] = false := by with_unfolding_all rfl) : PT X (.Compare a [op, op'] [b, c] pos) (lowT X.K W (dTest (dChain rd rd' da db dc))) :=
  pti (pt_chain ho ho' ha hb hc hm) fun σ H Q h => by
  obtain ⟨ρ, S, Qh, Xh, hσ, hS, h, k, x⟩ := low_tB h
  exact ⟨ρ, S, _, Xh, hσ, hS, h, fun d1 S1 v1 H1 q1 t1 r1 a1 => ⟨ρ, S1, _, Xh, hσ.mono t1, a1, q1, fun d2 S2 v2 H2 q2 t2 r2 a2 => hl v1 v2 H2 d1 d2 S2 _ _ (r1.mono t2) r2 a2 q2 fun d3 S3 v3 H3 q3 t3 r3 a3 => by
    cases d3 with
    | bl b =>
      refine ⟨b, r3.i_bl, ?_⟩
      cases b with
      | true =>
        refine iteT ⟨ρ, S3, _, Xh, hσ.mono ((t1.trans t2).trans t3), a3, q3, fun d4 S4 v4 H4 q4 t4 r4 a4 => hl' v2 v4 H4 d2 d4 S4 Qh _ (r2.mono (t3.trans t4)) r4 a4 q4 (k.mono (((t1.trans t2).trans t3).trans t4)), x.mono ((t1.trans t2).trans t3)⟩
      | false =>
        exact iteF ((k.mono ((t1.trans t2).trans t3)).now q3 (.bl false) a3)
    | _ => exact q3.elim, x.mono t1⟩, x⟩
end
end VD

namespace VD
open PySem PySem.Spec PyProof.Rows L2

section
variable {K : PySem.W.Frag} {W : WX} {H H1 : Hp} {σ : L2.St} {ρ : Rho}
theorem LkS.lx {Dh : DEnds} {D : Ends} (k : LkS K W H Dh D) (hσ : RepS K H σ ρ) : Lx K W σ H (fun c da S => Dh.ex c da ρ S) := fun c da S' H' q t a => k.ex c da ρ S' σ H' q t (hσ.mono t) a
theorem LkS.nexts {Dh : DEnds} {D : Ends} (k : LkS K W H Dh D) {nh : Rho → Sto → Prop} {n : L2.St → Hp → Prop} (h : LkG K H nh n) : LkS K W H { Dh with nx := nh } { D with nx := n } := ⟨h, k.rt, k.bk, k.ct, k.ex⟩
theorem LkS.loop {Dh : DEnds} {D : Ends} (k : LkS K W H Dh D) {nh : Rho → Sto → Prop} {n : L2.St → Hp → Prop} (h : LkG K H nh n) : LkS K W H { Dh with nx := nh, ct := nh, bk := Dh.nx } { D with nx := n, ct := n, bk := D.nx } := ⟨h, k.rt, k.nx, h, k.ex⟩
theorem LkG.now {Qh : Rho → Sto → Prop} {Q : L2.St → Hp → Prop} (k : LkG K H Qh Q) {S : Sto} (q : Qh ρ S) (r : RepS K H σ ρ) (a : Abs K H S) : Q σ H := k ρ S σ H q (Tk.refl H) r a
end
/-- the ends of a statement as the wish of an expression -/
abbrev DEnds.xd (D : DEnds) (ρ : Rho) : XD := fun c da S => D.ex c da ρ S

section
variable {X : Cx} {W : WX} {st : Stmt} {rest sts body : List Stmt} {a b : DS} {e c : Expr} {de : DE} {dt : DT} {pos : Pos}
def dSeq (a b : DS) : DS := fun D ρ S => a { D with nx := b D } ρ S
def dNext : DS := fun D ρ S => D.nx ρ S
theorem s_nil : PSs X [] (lowS X.K W dNext) := pssi pss_nil fun D σ H ⟨ρ, S, Dh, hσ, hS, h, k⟩ => k.nx.now h hσ hS
theorem s_cons (h1 : PS X st (lowS X.K W a)) (h2 : PSs X rest (lowS X.K W b)) : PSs X (st :: rest) (lowS X.K W (dSeq a b)) := pssi (pss_cons h1 h2) fun D σ H ⟨ρ, S, Dh, hσ, hS, h, k⟩ =>
  ⟨ρ, S, { Dh with nx := b Dh }, hσ, hS, h, k.nexts fun ρ' S' σ' H' q t r a => ⟨ρ', S', Dh, r, a, q, k.mono t⟩⟩
theorem s_one (h1 : PS X st (lowS X.K W a)) : PSs X [st] (lowS X.K W a) := pss_one h1
theorem s_pass : PS X (.Pass pos) (lowS X.K W dNext) := psi ps_pass fun D σ H ⟨ρ, S, Dh, hσ, hS, h, k⟩ => k.nx.now h hσ hS
def dBreak : DS := fun D ρ S => D.bk ρ S
def dCont : DS := fun D ρ S => D.ct ρ S
theorem s_break : PS X (.Break pos) (lowS X.K W dBreak) := psi ps_break fun D σ H ⟨ρ, S, Dh, hσ, hS, h, k⟩ => k.bk.now h hσ hS
theorem s_cont : PS X (.Continue pos) (lowS X.K W dCont) := psi ps_continue fun D σ H ⟨ρ, S, Dh, hσ, hS, h, k⟩ => k.ct.now h hσ hS
def dDrop (de : DE) : DS := fun D ρ S => de ρ S (fun _ S1 => D.nx ρ S1) (D.xd ρ)
theorem s_expr (he : PE X e (low X.K W de)) (hs : swapsWith e none pos.line X.env = pure false := by rfl) : PS X (.Expr e pos) (lowS X.K W (dDrop de)) := psi (ps_expr he hs) fun D σ H ⟨ρ, S, Dh, hσ, hS, h, k⟩ =>
  ⟨ρ, S, _, _, hσ, hS, h, fun d S1 v H1 q t r a => k.nx ρ S1 σ H1 q t (hσ.mono t) a, k.lx hσ⟩
def dRet (de : DE) : DS := fun D ρ S => de ρ S D.rt (D.xd ρ)
theorem s_ret (he : PE X e (low X.K W de)) : PS X (.Return (some e) pos) (lowS X.K W (dRet de)) := psi (ps_ret he) fun D σ H ⟨ρ, S, Dh, hσ, hS, h, k⟩ => ⟨ρ, S, _, _, hσ, hS, h, k.rt, k.lx hσ⟩
def dRetN : DS := fun D _ S => D.rt .non S
theorem s_retN : PS X (.Return none pos) (lowS X.K W dRetN) := psi ps_retN fun D σ H ⟨ρ, S, Dh, hσ, hS, h, k⟩ => k.rt.now h .non hS
def dIfS (c : DT) (t u : DS) : DS := fun D ρ S => c ρ S (fun b S1 => if b = true then t D ρ S1 else u D ρ S1) (D.xd ρ)
theorem s_if {sa sb : List Stmt} (hc : PT X c (lowT X.K W dt)) (ha : PSs X sa (lowS X.K W a)) (hb : PSs X sb (lowS X.K W b)) : PS X (.If c sa sb pos) (lowS X.K W (dIfS dt a b)) := psi (ps_if hc ha hb) fun D σ H ⟨ρ, S, Dh, hσ, hS, h, k⟩ =>
  ⟨ρ, S, _, _, hσ, hS, h, fun bb S1 H1 q t aa => by
    cases bb with
    | true => exact ⟨ρ, S1, Dh, hσ.mono t, aa, q, k.mono t⟩
    | false => exact ⟨ρ, S1, Dh, hσ.mono t, aa, q, k.mono t⟩, k.lx hσ⟩
def dNever : DS := fun _ _ _ => False
theorem s_never : PS X st (lowS X.K W dNever) := psi ps_never fun D σ H ⟨ρ, S, Dh, hσ, hS, h, k⟩ => h.elim

/-! targets -/
abbrev DG := Dv → Rho → Sto → (Rho → Sto → Prop) → Prop
abbrev DGs := List Dv → Rho → Sto → (Rho → Sto → Prop) → Prop
def lowG (K : PySem.W.Frag) (g : DG) : TG := fun v σ H Q => ∃ d ρ S Qh, Rep K H v d ∧ RepS K H σ ρ ∧ Abs K H S ∧ g d ρ S Qh ∧ LkG K H Qh Q
def lowGs (K : PySem.W.Frag) (g : DGs) : TGs := fun vs σ H Q => ∃ ds ρ S Qh, RepL K H vs ds ∧ RepS K H σ ρ ∧ Abs K H S ∧ g ds ρ S Qh ∧ LkG K H Qh Q
def gN (i : Nat) : DG := fun d ρ S Q => Q (ρ.set i (some d)) S
def gNilD : DGs := fun ds ρ S Q => match ds with | [] => Q ρ S | _ => False
def gConsD (g : DG) (r : DGs) : DGs := fun ds ρ S Q => match ds with | d :: t => g d ρ S fun ρ' S' => r t ρ' S' Q | [] => False
def gT (n : Nat) (g : DGs) : DG := fun d ρ S Q => match d with | .tup ds => ds.length = n ∧ g ds ρ S Q | _ => False
variable {tg : Expr} {es : List Expr} {g : DG} {gs : DGs}
theorem pgi {t t' : TG} (h : PG X e t) (i : ∀ v σ H Q, t' v σ H Q → t v σ H Q) : PG X e t' := ⟨fun pins s σ H v u Q I r q => h.run pins s σ H v u Q I r (i v σ H Q q)⟩
theorem pgsi {t t' : TGs} (h : PGs X es t) (i : ∀ v σ H Q, t' v σ H Q → t v σ H Q) : PGs X es t' := ⟨fun pins s σ H v u Q I r q => h.run pins s σ H v u Q I r (i v σ H Q q)⟩
theorem g_name (i : Nat) {x : Str} (hN : X.N.Nodup) (hi : X.N[i]? = some x := by rfl) (hx : Loc X.env.scope x := by first | exact Or.inl rfl | exact Or.inr rfl) (hf : X.fn x = true ∨ X.env.scope.names.lookup x = some .local := by first | exact .inl rfl | exact .inr rfl | assumption) :
    PG X (.Name x pos) (lowG X.K (gN i)) := pgi (pg_name hN hi hx hf) fun v σ H Q ⟨d, ρ, S, Qh, r, hσ, hS, h, k⟩ => k.now h (hσ.set i r) hS
theorem g_nil : PGs X [] (lowGs X.K gNilD) := pgsi pgs_nil fun vs σ H Q ⟨ds, ρ, S, Qh, r, hσ, hS, h, k⟩ => by
  cases ds with
  | nil => exact ⟨r.nil_i, k.now h hσ hS⟩
  | cons d t => exact h.elim
theorem g_cons (h1 : PG X e (lowG X.K g)) (h2 : PGs X es (lowGs X.K gs)) (hs : (assignEach (e :: es) X.env).map (·.2) = assign e X.env :: (assignEach es X.env).map (·.2) := by rfl) : PGs X (e :: es) (lowGs X.K (gConsD g gs)) :=
  pgsi (pgs_cons h1 h2 hs) fun vs σ H Q ⟨ds, ρ, S, Qh, r, hσ, hS, h, k⟩ => by
  cases ds with
  | nil => exact h.elim
  | cons d t =>
    obtain ⟨v, r', rfl, rv, rr⟩ := r.cons_i
    exact ⟨v, r', rfl, d, ρ, S, _, rv, hσ, hS, h, fun ρ' S' σ' H' q tt rs aa => ⟨t, ρ', S', Qh, rr.mono tt, rs, aa, q, k.mono tt⟩⟩
theorem g_tup {kk : Nat} {n : Nat} (hc : X.calm = true) (h : PGs X es (lowGs X.K gs)) (hn : (assignEach es X.env).length = n := by rfl) (hst : (assignEach es X.env).findIdx? (·.1) = none := by rfl) : PG X (.Tuple es kk pos) (lowG X.K (gT n gs)) :=
  pgi (pg_tup hc h hn hst) fun v σ H Q ⟨d, ρ, S, Qh, r, hσ, hS, h, k⟩ => by
  cases d with
  | tup ds =>
    obtain ⟨p, xs, rfl, hq, rl⟩ := r.i_tup
    exact ⟨p, xs, rfl, hq, by rw [rl.length]; exact h.1, ds, ρ, S, Qh, rl, hσ, hS, h.2, k⟩
  | _ => exact h.elim
/-- o[i] = v -/
abbrev RDS := Dv → Dv → Dv → Sto → (Sto → Prop) → Prop
def LRS (K : PySem.W.Frag) (r : TSet) (rd : RDS) : Prop := ∀ o i v H dO dI d S (Qh : Sto → Prop) (Q : Hp → Prop), Rep K H o dO → Rep K H i dI → Rep K H v d → Abs K H S → rd dO dI d S Qh → (∀ S' H', Qh S' → Tk K H H' → Abs K H' S' → Q H') → r o i v H Q
def gSubD (rd : RDS) (dO di : DE) : DG := fun d ρ S Q => dO ρ S (fun o S1 => di ρ S1 (fun i S2 => rd o i d S2 fun S3 => Q ρ S3) X0) X0
theorem lx0 {K : PySem.W.Frag} {σ : L2.St} {H : Hp} : Lx K W σ H X0 := fun _ _ _ _ q => q.elim
theorem g_sub {o i : Expr} {dO di : DE} {r : TSet} {rd : RDS} (hs : PSet X r) (hl : LRS X.K r rd) (ho : PE X o (low X.K W dO)) (hi : PE X i (low X.K W di))
    (ha : ∀ v, assign (.Subscript o i pos) X.env v = (do
      let ov ← holding [v] (eval o X.env)
      let iv ← holding [v, ov] (eval i X.env)
      standAt pos
      holding [v, ov, iv] (setItem ov iv v)
      release [v, ov, iv] []) := by intro _; rfl) : PG X (.Subscript o i pos) (lowG X.K (gSubD rd dO di)) := pgi (pg_sub ho hi hs ha) fun v σ H Q ⟨d, ρ, S, Qh, r, hσ, hS, h, k⟩ =>
  ⟨ρ, S, _, X0, hσ, hS, h, fun d1 S1 v1 H1 q1 t1 r1 a1 => ⟨ρ, S1, _, X0, hσ.mono t1, a1, q1, fun d2 S2 v2 H2 q2 t2 r2 a2 => hl v1 v2 v H2 d1 d2 d S2 _ _ (r1.mono t2) r2 (r.mono (t1.trans t2)) a2 q2 fun S3 H3 q3 t3 a3 =>
    k ρ S3 σ H3 q3 ((t1.trans t2).trans t3) (hσ.mono ((t1.trans t2).trans t3)) a3, lx0⟩, lx0⟩
def dAsg (de : DE) (g : DG) : DS := fun D ρ S => de ρ S (fun d S1 => g d ρ S1 D.nx) (D.xd ρ)
theorem s_asg (he : PE X e (low X.K W de)) (hg : PG X tg (lowG X.K g)) (hs : swapsWithSole [tg] e pos.line X.env = pure false := by rfl) (hw : swappedStores [tg] e X.env = pure none := by rfl)
    (h1 : (assignEach [tg] X.env).map (·.2) = [assign tg X.env] := by rfl) : PS X (.Assign [tg] e pos) (lowS X.K W (dAsg de g)) := psi (ps_asg he hg hs hw h1) fun D σ H ⟨ρ, S, Dh, hσ, hS, h, k⟩ =>
  ⟨ρ, S, _, _, hσ, hS, h, fun d S1 v H1 q t r a => ⟨d, ρ, S1, _, r, hσ.mono t, a, q, k.nx.mono t⟩, k.lx hσ⟩
theorem s_set (i : Nat) {x : Str} {pos' : Pos} (hN : X.N.Nodup) (he : PE X e (low X.K W de)) (hi : X.N[i]? = some x := by rfl) (hx : Loc X.env.scope x := by first | exact Or.inl rfl | exact Or.inr rfl) (hs : swapsWith e (some (.Name x pos')) pos.line X.env = pure false := by rfl)
    (hf : X.fn x = true ∨ X.env.scope.names.lookup x = some .local := by first | exact .inl rfl | exact .inr rfl | assumption) : PS X (.Assign [.Name x pos'] e pos) (lowS X.K W (dAsg de (gN i))) := psi (ps_set hN hi hx he hs hf) fun D σ H ⟨ρ, S, Dh, hσ, hS, h, k⟩ =>
  ⟨ρ, S, _, _, hσ, hS, h, fun d S1 v H1 q t r a => k.nx _ S1 _ H1 q t ((hσ.mono t).set i r) a, k.lx hσ⟩
/-- a, b = x, y (both local names, no cells) -/
def dPar (i j : Nat) (das : DA) : DS := fun D ρ S => das ρ S (fun ds S1 => match ds with | [x, y] => D.nx ((ρ.set i (some x)).set j (some y)) S1 | _ => False) (D.xd ρ)
theorem s_par (i j : Nat) {x y : Str} {ea eb : Expr} {das : DA} {px py pt : Pos} {kt k2 pt2} (hc : X.calm = true) (hN : X.N.Nodup) (ha : PA X [ea, eb] (lowA X.K W das))
    (hw : swappedStores [.Tuple [.Name x px, .Name y py] kt pt] (.Tuple [ea, eb] k2 pt2) X.env = pure (some [x, y])) (hi : X.N[i]? = some x := by rfl) (hj : X.N[j]? = some y := by rfl) (hij : i ≠ j := by decide)
    (hx : X.env.scope.names.lookup x = some .local := by rfl) (hy : X.env.scope.names.lookup y = some .local := by rfl)
    (hs : swapsWithSole [.Tuple [.Name x px, .Name y py] kt pt] (.Tuple [ea, eb] k2 pt2) pos.line X.env = pure false := by rfl) :
    PS X (.Assign [.Tuple [.Name x px, .Name y py] kt pt] (.Tuple [ea, eb] k2 pt2) pos) (lowS X.K W (dPar i j das)) := psi (ps_par hc hN hi hj hij hx hy ha hw hs) fun D σ H ⟨ρ, S, Dh, hσ, hS, h, k⟩ =>
  ⟨ρ, S, _, _, hσ, hS, h, fun ds S1 vs H1 q t r a => by
    match ds, q, r with
    | [d1, d2], q, r =>
      obtain ⟨v1, r1, rfl, h1, r⟩ := r.cons_i
      obtain ⟨v2, r2, rfl, h2, r⟩ := r.cons_i
      rw [r.nil_i]
      exact ⟨v1, v2, rfl, k.nx _ S1 _ H1 q t (((hσ.mono t).set i h1).set j h2) a⟩
    | [], q, _ => exact q.elim
    | [_], q, _ => exact q.elim
    | _ :: _ :: _ :: _, q, _ => exact q.elim, k.lx hσ⟩
/-- x op= e -/
def dAug (i : Nat) (rd : RD2) (de : DE) : DS := fun D ρ S => ∃ x, ρ[i]? = some (some x) ∧ de ρ S (fun y S1 => rd x y S1 fun z S2 => D.nx (ρ.set i (some z)) S2) (D.xd ρ)
theorem s_aug (i : Nat) {x : Str} {op : Operator} {r : R2} {rd : RD2} {pos' : Pos} (hN : X.N.Nodup) (ho : OpR X (inplaceOp op) r) (hl : LR2 X.K r rd) (he : PE X e (low X.K W de)) (hi : X.N[i]? = some x := by rfl) (hx : Loc X.env.scope x := by first | exact Or.inl rfl | exact Or.inr rfl)
    (hf : X.fn x = true ∨ X.env.scope.names.lookup x = some .local := by first | exact .inl rfl | exact .inr rfl | assumption) : PS X (.AugAssign (.Name x pos') op e pos) (lowS X.K W (dAug i rd de)) :=
  psi (ps_aug (ti := r) hN hi hx he (fun pins s σ H x y v u Q I r1 r2 h => ho pins s σ H x y v u Q I r1 r2 h) hf) fun D σ H ⟨ρ, S, Dh, hσ, hS, ⟨x, ex, h⟩, k⟩ => by
  obtain ⟨v, ev, rv⟩ := hσ.at_ i x ex
  exact ⟨v, ev, ρ, S, _, _, hσ, hS, h, fun d S1 v1 H1 q t r1 a => hl v v1 H1 x d S1 _ _ (rv.mono t) r1 a q fun d2 S2 v2 H2 q2 t2 r2 a2 => k.nx _ S2 _ H2 q2 (t.trans t2) ((hσ.mono (t.trans t2)).set i r2) a2, k.lx hσ⟩
end

/-! loops -/
abbrev DI := Rho → Sto → (List Dv → (Sto → Prop) → Sto → Prop) → XD → Prop
structure ItD (K : PySem.W.Frag) (H0 : Hp) (J : It) (items : List Dv) (stay : Sto → Prop) : Prop where
  go : ∀ i H S x, Tk K H0 H → Abs K H S → stay S → items[i]? = some x → J.go i H ∧ ∀ v H', J.yld i H v H' → Tk K H H' ∧ Rep K H' v x ∧ Abs K H' S
  stop : ∀ H S, Tk K H0 H → Abs K H S → stay S → J.stop items.length H
def LkI (K : PySem.W.Frag) (H : Hp) (Rh : List Dv → (Sto → Prop) → Sto → Prop) (R : It → Hp → Prop) : Prop := ∀ items stay S' J H', Rh items stay S' → Tk K H H' → Abs K H' S' → ItD K H' J items stay → R J H'
theorem LkI.mono {K : PySem.W.Frag} {H H1 : Hp} {Rh : List Dv → (Sto → Prop) → Sto → Prop} {R : It → Hp → Prop} (k : LkI K H Rh R) (t : Tk K H H1) : LkI K H1 Rh R := fun i s S J H' q t' => k i s S J H' q (t.trans t')
def lowI (K : PySem.W.Frag) (W : WX) (di : DI) : TI := fun σ H R => ∃ ρ S Rh Xh, RepS K H σ ρ ∧ Abs K H S ∧ di ρ S Rh Xh ∧ LkI K H Rh R ∧ Lx K W σ H Xh
def ForGo (g : DG) (tb : DS) (D : DEnds) (ρ : Rho) (items : List Dv) (stay : Sto → Prop) (S1 : Sto) : Prop := ∃ Wv : Nat → Rho → Sto → Prop, Wv 0 ρ S1 ∧ (∀ i ρ S, i ≤ items.length → Wv i ρ S → stay S) ∧
  (∀ i x ρ S, items[i]? = some x → Wv i ρ S → g x ρ S fun ρ2 S2 => tb { D with nx := Wv (i + 1), ct := Wv (i + 1), bk := D.nx } ρ2 S2) ∧ ∀ ρ S, Wv items.length ρ S → D.nx ρ S
def dFor (di : DI) (g : DG) (tb : DS) : DS := fun D ρ S => di ρ S (fun items stay S1 => ForGo g tb D ρ items stay S1) (D.xd ρ)
section
variable {X : Cx} {W : WX} {tg iter c : Expr} {body : List Stmt} {di : DI} {g : DG} {tb : DS} {dt : DT} {pos : Pos}
theorem s_for (hp : PassesOwn (model X.prog X.w) X.A X.env X.xe) (hc : X.calm = true) (hi : PI X tg iter (lowI X.K W di)) (hg : PG X tg (lowG X.K g)) (hb : PSs X body (lowS X.K W tb))
    (hs : ∀ x, foldedSetIterable iter X.env x = pure x := by intro _; rfl) : PS X (.For tg iter body [] pos) (lowS X.K W (dFor di g tb)) := psi (ps_for hp hc hi hg hb hs) fun D σ H ⟨ρ, S, Dh, hσ, hS, h, k⟩ => by
  refine ⟨ρ, S, _, _, hσ, hS, h, fun items stay S1 J H1 q t1 a1 it => ?_, k.lx hσ⟩
  obtain ⟨Wv, w0, st, step, done⟩ := q
  refine ⟨fun i m σ' H' => m = items.length - i ∧ i ≤ items.length ∧ Tk X.K H1 H' ∧ ∃ ρ' S', RepS X.K H' σ' ρ' ∧ Abs X.K H' S' ∧ Wv i ρ' S', ⟨_, rfl, Nat.zero_le _, Tk.refl _, ρ, S1, hσ.mono t1, a1, w0⟩, ?_⟩
  rintro i m σ' H' ⟨rfl, hi, t2, ρ', S', hσ', a2, w⟩
  by_cases hlt : i < items.length
  · obtain ⟨g1, g2⟩ := it.go i H' S' items[i] t2 a2 (st i ρ' S' hi w) (by simp [hlt])
    refine .inr ⟨g1, fun σ' H' => Tk X.K H1 H' ∧ ∃ ρ' S', RepS X.K H' σ' ρ' ∧ Abs X.K H' S' ∧ Wv (i + 1) ρ' S', fun σ3 H3 ⟨t3, z⟩ => ⟨items.length - (i + 1), by omega, rfl, hlt, t3, z⟩, fun x H3 y => ?_⟩
    obtain ⟨t3, r3, a3⟩ := g2 x H3 y
    refine ⟨items[i], ρ', S', _, r3, hσ'.mono t3, a3, step i _ ρ' S' (by simp [hlt]) w, fun ρ4 S4 σ4 H4 q4 t4 r4 a4 => ⟨ρ4, S4, _, r4, a4, q4, ((((k.mono t1).mono t2).mono t3).mono t4).loop ?_⟩⟩
    exact fun ρ5 S5 σ5 H5 q5 t5 r5 a5 => ⟨((t2.trans t3).trans t4).trans t5, ρ5, S5, r5, a5, q5⟩
  · have e : i = items.length := by omega
    subst e
    exact .inl ⟨it.stop H' S' t2 a2 (st _ ρ' S' hi w), k.nx ρ' S' σ' H' (done ρ' S' w) (t1.trans t2) hσ' a2⟩
def dWhile (c : DT) (tb : DS) : DS := fun D ρ S => ∃ Wv : Nat → Rho → Sto → Prop, (∃ m, Wv m ρ S) ∧ ∀ m ρ S, Wv m ρ S →
  c ρ S (fun b S1 => if b = true then tb { D with nx := fun ρ' S' => ∃ m', m' < m ∧ Wv m' ρ' S', ct := fun ρ' S' => ∃ m', m' < m ∧ Wv m' ρ' S', bk := D.nx } ρ S1 else D.nx ρ S1) (D.xd ρ)
theorem s_while (hp : PassesOwn (model X.prog X.w) X.A X.env X.xe) (hc : PT X c (lowT X.K W dt)) (hb : PSs X body (lowS X.K W tb)) : PS X (.While c body [] pos) (lowS X.K W (dWhile dt tb)) := psi (ps_while hp hc hb) fun D σ H ⟨ρ, S, Dh, hσ, hS, h, k⟩ => by
  obtain ⟨Wv, ⟨m0, w0⟩, step⟩ := h
  refine ⟨fun m σ' H' => Tk X.K H H' ∧ ∃ ρ' S', RepS X.K H' σ' ρ' ∧ Abs X.K H' S' ∧ Wv m ρ' S', ⟨m0, Tk.refl _, ρ, S, hσ, hS, w0⟩, ?_⟩
  rintro m σ' H' ⟨t, ρ', S', hσ', a', w⟩
  refine ⟨ρ', S', _, _, hσ', a', step m ρ' S' w, fun b S1 H1 q t1 a1 => ?_, (k.mono t).lx hσ'⟩
  cases b with
  | true =>
    refine iteT ⟨fun σ2 H2 => Tk X.K H H2 ∧ ∃ m', m' < m ∧ ∃ ρ' S', RepS X.K H2 σ2 ρ' ∧ Abs X.K H2 S' ∧ Wv m' ρ' S', fun σ2 H2 ⟨t2, m', lt, z⟩ => ⟨m', lt, t2, z⟩, ρ', S1, _, hσ'.mono t1, a1, q, ((k.mono t).mono t1).loop ?_⟩
    exact fun ρ5 S5 σ5 H5 ⟨m', lt, q5⟩ t5 r5 a5 => ⟨(t.trans t1).trans t5, m', lt, ρ5, S5, r5, a5, q5⟩
  | false => exact iteF ((k.mono t).nx ρ' S1 σ' H1 q t1 (hσ'.mono t1) a1)

/-! what is walked -/
theorem pii {wi wi' : TI} (h : PI X tg iter wi) (i : ∀ σ H R, wi' σ H R → wi σ H R) : PI X tg iter wi' := ⟨fun pins s σ H R I q => h.run pins s σ H R I (i σ H R q)⟩
/-- over a list or a tuple -/
def iSeq (de : DE) : DI := fun ρ S R X => de ρ S (fun d S1 => match d with
  | .tup ds => R ds (fun _ => True) S1
  | .rol ds => R ds (fun _ => True) S1
  | .ref a => ∃ ds, S1 a = some (.lst ds) ∧ R ds (fun S => S a = some (.lst ds)) S1
  | _ => False) X
theorem sqT_inj {K : PySem.W.Frag} {H : Hp} {a : Addr} {xs ys : List V} {I : Prop} (h : SqT K H a xs) (hx : ∀ zs, SqT K H a zs → zs = xs) (g : SqT K H a ys) : ys = xs := hx ys g
/-- the tuple at a, walked -/
theorem it_tup {K : PySem.W.Frag} {H0 : Hp} {a : Addr} {xs : List V} {ds : List Dv} (h : SqT K H0 a xs) (r : RepL K H0 xs ds) : ItD K H0 (Itt K a) ds (fun _ => True) := by
  refine ⟨fun i H S x t ha _ hx => ?_, fun H S t ha _ => ⟨xs, t.t _ _ h, by rw [r.length]; exact Nat.le_refl _⟩⟩
  obtain ⟨v, hv, rv⟩ := r.get hx
  refine ⟨⟨xs, v, t.t _ _ h, hv⟩, fun v' H' ⟨e, y⟩ => ?_⟩
  subst e
  have e2 := y xs (t.t _ _ h)
  rw [hv] at e2
  cases e2
  exact ⟨Tk.refl _, rv.mono t, ha⟩
theorem it_rol {K : PySem.W.Frag} {H0 : Hp} {a : Addr} {xs : List V} {ds : List Dv} (h : CL K H0 a xs) (r : RepL K H0 xs ds) : ItD K H0 (Itl K a) ds (fun _ => True) := by
  refine ⟨fun i H S x t ha _ hx => ?_, fun H S t ha _ => ⟨xs, (t.c _ _ h).sq, by rw [r.length]; exact Nat.le_refl _⟩⟩
  obtain ⟨v, hv, rv⟩ := r.get hx
  refine ⟨⟨xs, v, (t.c _ _ h).sq, hv⟩, fun v' H' ⟨e, y⟩ => ?_⟩
  subst e
  have e2 := y xs (t.c _ _ h).sq
  rw [hv] at e2
  cases e2
  exact ⟨Tk.refl _, rv.mono t, ha⟩
theorem it_lst {K : PySem.W.Frag} {H0 : Hp} {a : Addr} {ds : List Dv} : ItD K H0 (Itl K a) ds (fun S => S a = some (.lst ds)) := by
  refine ⟨fun i H S x t ha st hx => ?_, fun H S t ha st => ?_⟩
  · obtain ⟨xs, h1, h2⟩ := ha a _ st
    obtain ⟨v, hv, rv⟩ := h2.get hx
    refine ⟨⟨xs, v, .inl (.inl h1), hv⟩, fun v' H' ⟨e, y⟩ => ?_⟩
    subst e
    have e2 := y xs (.inl (.inl h1))
    rw [hv] at e2
    cases e2
    exact ⟨Tk.refl _, rv, ha⟩
  · obtain ⟨xs, h1, h2⟩ := ha a _ st
    exact ⟨xs, .inl (.inl h1), by rw [h2.length]; exact Nat.le_refl _⟩
def iTupD (de : DE) : DI := fun ρ S R X => de ρ S (fun d S1 => match d with | .tup ds => R ds (fun _ => True) S1 | _ => False) X
theorem i_tup {e : Expr} {de : DE} (he : PE X e (low X.K W de)) : PI X tg e (lowI X.K W (iTupD de)) := pii (pi_tup he) fun σ H R ⟨ρ, S, Rh, Xh, hσ, hS, h, k, x⟩ =>
  ⟨ρ, S, _, Xh, hσ, hS, h, fun d S1 v H1 q t r a => by
    cases d with
    | tup ds =>
      obtain ⟨p, xs, rfl, hq, rl⟩ := r.i_tup
      exact ⟨p, rfl, ⟨xs, hq⟩, k ds _ S1 _ H1 q t a (it_tup hq rl)⟩
    | _ => exact q.elim, x⟩
def iLstD (de : DE) : DI := fun ρ S R X => de ρ S (fun d S1 => match d with
  | .rol ds => R ds (fun _ => True) S1
  | .ref a => match S1 a with | some (.lst ds) => R ds (fun S => S a = some (.lst ds)) S1 | _ => False
  | _ => False) X
theorem i_lst {e : Expr} {de : DE} (he : PE X e (low X.K W de)) : PI X tg e (lowI X.K W (iLstD de)) := pii (pi_list he) fun σ H R ⟨ρ, S, Rh, Xh, hσ, hS, h, k, x⟩ =>
  ⟨ρ, S, _, Xh, hσ, hS, h, fun d S1 v H1 q t r a => by
    cases d with
    | rol ds =>
      obtain ⟨p, xs, rfl, hq, rl⟩ := r.i_rol
      exact ⟨p, rfl, ⟨xs, hq.sq⟩, k ds _ S1 _ H1 q t a (it_rol hq rl)⟩
    | ref p =>
      have q : (match S1 p with | some (.lst ds) => Rh ds (fun S => S p = some (.lst ds)) S1 | _ => False) := q
      cases e : S1 p with
      | none => rw [e] at q; exact q.elim
      | some m =>
        rw [e] at q
        cases m with
        | lst ds =>
          obtain ⟨xs, h1, h2⟩ := a p _ e
          exact ⟨p, r.i_ref, ⟨xs, .inl (.inl h1)⟩, k ds _ S1 _ H1 q t a it_lst⟩
        | _ => exact q.elim
    | _ => exact q.elim, x⟩
/-- over a list, a tuple, a text: by the value -/
def iSeqD (de : DE) : DI := fun ρ S R X => de ρ S (fun d S1 => match d with
  | .tup ds => R ds (fun _ => True) S1
  | .rol ds => R ds (fun _ => True) S1
  | .ref a => match S1 a with | some (.lst ds) => R ds (fun S => S a = some (.lst ds)) S1 | _ => False
  | _ => False) X
theorem i_seq {e : Expr} {de : DE} (he : PE X e (low X.K W de)) : PI X tg e (lowI X.K W (iSeqD de)) := by
  refine ⟨fun pins s σ H R I ⟨ρ, S, Rh, Xh, hσ, hS, h, k, x⟩ => ?_⟩
  have lst : ∀ {a : Addr} {xs : List V} {H1 : Hp} {s1 : Shared}, Inv X pins σ H1 s1 → SqL X.K H1 a xs → R (Itl X.K a) H1 → wpAny (model X.prog X.w) X.A (pyIter (.ref a)) (PIE X pins σ tg R) X.xe s1 := by
    intro a xs H1 s1 I1 hq q
    obtain ⟨its, rv, p, hz⟩ := I1.list hq
    refine wpAny_pyIter_list p.isList ?_
    refine ⟨s1.heap.objs.size, [s1.heap.objs.size], _, _, H1, rfl, I1.kept (t' := s1.toks) fun b o e => Heap.get?_push_of_some _ e, turn_list a _, ⟨_, Heap.get?_push_size _ rfl, rfl, rfl⟩, fun b hb => ?_, q⟩
    have e : b = s1.heap.objs.size := by simpa using hb
    subst e
    exact I1.fpOk (Nat.le_refl _) (I1.hok.fresh (Nat.le_refl _))
  have tup : ∀ {a : Addr} {xs : List V} {H1 : Hp} {s1 : Shared}, Inv X pins σ H1 s1 → SqT X.K H1 a xs → R (Itt X.K a) H1 → wpAny (model X.prog X.w) X.A (pyIter (.ref a)) (PIE X pins σ tg R) X.xe s1 := by
    intro a xs H1 s1 I1 hq q
    obtain ⟨its, rv, p, hz⟩ := I1.tuple hq
    refine wpAny_pyIter_tuple (show s1.heap.IsTuple a its.toArray from p) ?_
    refine ⟨s1.heap.objs.size, [s1.heap.objs.size], _, _, H1, rfl, I1.kept (t' := s1.toks) fun b o e => Heap.get?_push_of_some _ e, turn_tuple a _, ⟨_, Heap.get?_push_size _ rfl, rfl, rfl⟩, fun b hb => ?_, q⟩
    have e : b = s1.heap.objs.size := by simpa using hb
    subst e
    exact I1.fpOk (Nat.le_refl _) (I1.hok.fresh (Nat.le_refl _))
  refine thn (he.run pins s σ H (fun v H1 => ∃ a, v = .ref a ∧ ((∃ xs, SqL X.K H1 a xs ∧ R (Itl X.K a) H1) ∨ (∃ xs, SqT X.K H1 a xs ∧ R (Itt X.K a) H1))) I ⟨ρ, S, _, Xh, hσ, hS, h, fun d S1 v H1 q t r a => ?_, x⟩) fun v s1 ⟨y, H1, I1, r1, a, e, q1⟩ => ?_
  · cases d with
    | tup ds =>
      obtain ⟨p, xs, rfl, hq, rl⟩ := r.i_tup
      exact ⟨p, rfl, .inr ⟨xs, hq, k ds _ S1 _ H1 q t a (it_tup hq rl)⟩⟩
    | rol ds =>
      obtain ⟨p, xs, rfl, hq, rl⟩ := r.i_rol
      exact ⟨p, rfl, .inl ⟨xs, hq.sq, k ds _ S1 _ H1 q t a (it_rol hq rl)⟩⟩
    | ref p =>
      have q : (match S1 p with | some (.lst ds) => Rh ds (fun S => S p = some (.lst ds)) S1 | _ => False) := q
      cases e : S1 p with
      | none => rw [e] at q; exact q.elim
      | some m =>
        rw [e] at q
        cases m with
        | lst ds =>
          obtain ⟨xs, h1, h2⟩ := a p _ e
          exact ⟨p, r.i_ref, .inl ⟨xs, .inl (.inl h1), k ds _ S1 _ H1 q t a it_lst⟩⟩
        | _ => exact q.elim
    | _ => exact q.elim
  · subst e
    cases r1
    rcases q1 with ⟨xs, hq, q⟩ | ⟨xs, hq, q⟩
    · exact lst I1 hq q
    · exact tup I1 hq q
/-- range(n), range(a, b), range(a, b, c) -/
def rangeL (lo : Int) (n : Nat) (c : Int) : List Dv := (List.range n).map fun (i : Nat) => Dv.int (lo + (i : Int) * c)
theorem rangeL_get {lo c : Int} {n i : Nat} {x : Dv} (h : (rangeL lo n c)[i]? = some x) : i < n ∧ x = .int (lo + (i : Int) * c) := by
  unfold rangeL at h
  rw [List.getElem?_map, Option.map_eq_some_iff] at h
  obtain ⟨j, h1, h2⟩ := h
  rw [List.getElem?_eq_some_iff] at h1
  obtain ⟨h3, h4⟩ := h1
  rw [List.getElem_range] at h4
  subst h4
  exact ⟨by simpa using h3, h2.symm⟩
theorem rangeL_len {lo c : Int} {n : Nat} : (rangeL lo n c).length = n := by unfold rangeL; simp
theorem it_rng {K : PySem.W.Frag} {H0 : Hp} {lo : Int} {n : Nat} : ItD K H0 (Itr lo n) (rangeL lo n 1) (fun _ => True) := by
  refine ⟨fun i H S x t ha st hx => ?_, fun H S t ha st => by rw [rangeL_len]; exact Nat.le_refl _⟩
  obtain ⟨h1, rfl⟩ := rangeL_get hx
  refine ⟨h1, fun v' H' ⟨e, y⟩ => ?_⟩
  subst e y
  exact ⟨Tk.refl _, by rw [Int.mul_one]; exact .int _, ha⟩
theorem it_rngC {K : PySem.W.Frag} {H0 : Hp} {lo c : Int} {n : Nat} : ItD K H0 (Itc lo c n) (rangeL lo n c) (fun _ => True) := by
  refine ⟨fun i H S x t ha st hx => ?_, fun H S t ha st => by rw [rangeL_len]; exact Nat.le_refl _⟩
  obtain ⟨h1, rfl⟩ := rangeL_get hx
  refine ⟨h1, fun v' H' ⟨e, y⟩ => ?_⟩
  subst e y
  exact ⟨Tk.refl _, .int _, ha⟩
def iR1 (das : DA) : DI := fun ρ S R X => das ρ S (fun ds S1 => match ds with | [.int j] => j < 2 ^ 62 ∧ -(2 ^ 62) ≤ j ∧ R (rangeL 0 j.toNat 1) (fun _ => True) S1 | _ => False) X
def iR2 (das : DA) : DI := fun ρ S R X => das ρ S (fun ds S1 => match ds with | [.int i, .int j] => (-(2 ^ 62) ≤ i ∧ i < 2 ^ 62 ∧ -(2 ^ 62) ≤ j ∧ j < 2 ^ 62) ∧ R (rangeL i (j - i).toNat 1) (fun _ => True) S1 | _ => False) X
def iR3 (das : DA) : DI := fun ρ S R X => das ρ S (fun ds S1 => match ds with | [.int i, .int j, .int c] => ∃ n, RgC i j c n ∧ R (rangeL i n c) (fun _ => True) S1 | _ => False) X
theorem i_r1 {a : Expr} {p : Pos} {das : DA} (hm : X.mg "range" = none) (ha : PA X [a] (lowA X.K W das)) (hg : Gl X "range" := by rfl) (hs : starEach [a] X.env = [(false, eval a X.env)] := by rfl) : PI X tg (.Call (.Name "range" p) [a] [] pos) (lowI X.K W (iR1 das)) :=
  pii (pi_range1 hg hm ha hs) fun σ H R ⟨ρ, S, Rh, Xh, hσ, hS, h, k, x⟩ => ⟨ρ, S, _, Xh, hσ, hS, h, fun ds S1 vs H1 q t r a => by
    match ds, q, r with
    | [.int j], q, r =>
      obtain ⟨v1, r1, rfl, h1, r⟩ := r.cons_i
      rw [r.nil_i, h1.i_int]
      exact ⟨j, rfl, q.2.1, q.1, k _ _ S1 _ H1 q.2.2 t a it_rng⟩, x⟩
theorem i_r2 {a b : Expr} {p : Pos} {das : DA} (hm : X.mg "range" = none) (ha : PA X [a, b] (lowA X.K W das)) (hg : Gl X "range" := by rfl) (hs : starEach [a, b] X.env = [(false, eval a X.env), (false, eval b X.env)] := by rfl) (hs2 : starEach [b] X.env = [(false, eval b X.env)] := by rfl) :
    PI X tg (.Call (.Name "range" p) [a, b] [] pos) (lowI X.K W (iR2 das)) :=
  pii (pi_range2 hg hm ha hs hs2) fun σ H R ⟨ρ, S, Rh, Xh, hσ, hS, h, k, x⟩ => ⟨ρ, S, _, Xh, hσ, hS, h, fun ds S1 vs H1 q t r a => by
    match ds, q, r with
    | [.int i, .int j], q, r =>
      obtain ⟨v1, r1, rfl, h1, r⟩ := r.cons_i
      obtain ⟨v2, r2, rfl, h2, r⟩ := r.cons_i
      rw [r.nil_i, h1.i_int, h2.i_int]
      exact ⟨i, j, rfl, q.1, k _ _ S1 _ H1 q.2 t a it_rng⟩, x⟩
theorem i_r3 {a b c : Expr} {p : Pos} {das : DA} (hm : X.mg "range" = none) (ha : PA X [a, b, c] (lowA X.K W das)) (hg : Gl X "range" := by rfl) (h0 : starEach [a, b, c] X.env = (false, eval a X.env) :: starEach [b, c] X.env := by rfl) (h1 : (backTo pos (starEach [b, c] X.env)).any (·.1) = false := by rfl) :
    PI X tg (.Call (.Name "range" p) [a, b, c] [] pos) (lowI X.K W (iR3 das)) :=
  pii (pi_range3 hg hm ha h0 h1) fun σ H R ⟨ρ, S, Rh, Xh, hσ, hS, h, k, x⟩ => ⟨ρ, S, _, Xh, hσ, hS, h, fun ds S1 vs H1 q t r a => by
    match ds, q, r with
    | [.int i, .int j, .int c], q, r =>
      obtain ⟨v1, r1, rfl, h1, r⟩ := r.cons_i
      obtain ⟨v2, r2, rfl, h2, r⟩ := r.cons_i
      obtain ⟨v3, r3, rfl, h3, r⟩ := r.cons_i
      rw [r.nil_i, h1.i_int, h2.i_int, h3.i_int]
      obtain ⟨n, g, q⟩ := q
      exact ⟨i, j, c, n, rfl, g, k _ _ S1 _ H1 q t a it_rngC⟩, x⟩
def iStrD (de : DE) : DI := fun ρ S R X => de ρ S (fun d S1 => match d with | .str x => R (x.cps.toList.map fun c => Dv.str ⟨#[c]⟩) (fun _ => True) S1 | _ => False) X
theorem i_str {e : Expr} {de : DE} (he : PE X e (low X.K W de)) : PI X tg e (lowI X.K W (iStrD de)) := pii (pi_str he) fun σ H R ⟨ρ, S, Rh, Xh, hσ, hS, h, k, x⟩ =>
  ⟨ρ, S, _, Xh, hσ, hS, h, fun d S1 v H1 q t r a => by
    cases d with
    | str z =>
      refine ⟨z, r.i_str, k _ _ S1 _ H1 q t a ⟨fun i H S x t ha st hx => ?_, fun H S t ha st => by simp [Its]⟩⟩
      rw [List.getElem?_map, Option.map_eq_some_iff] at hx
      obtain ⟨c, h1, rfl⟩ := hx
      rw [Array.getElem?_toList] at h1
      refine ⟨(Array.getElem?_eq_some_iff.mp h1).1, fun v' H' ⟨e, c', h2, e2⟩ => ?_⟩
      subst e e2
      rw [h1] at h2
      cases h2
      exact ⟨Tk.refl _, .str _, ha⟩
    | _ => exact q.elim, x⟩
end

/-! comprehensions -/
/-- a target of names alone, put back behind -/
def NG (K : PySem.W.Frag) (g : TG) (dg : DG) (vs : List Nat) : Prop := ∀ v d σ H ρ S Qh (Q : L2.St → Hp → Prop), Rep K H v d → RepS K H σ ρ → Abs K H S → dg d ρ S Qh → (∀ ρ' S' σ' H', Qh ρ' S' → Tk K H H' → RepS K H' σ' ρ' → Abs K H' S' → L2.wipe σ' vs = L2.wipe σ vs → Q σ' H') → g v σ H Q
def NGs (K : PySem.W.Frag) (g : TGs) (dg : DGs) (vs : List Nat) : Prop := ∀ xs ds σ H ρ S Qh (Q : L2.St → Hp → Prop), RepL K H xs ds → RepS K H σ ρ → Abs K H S → dg ds ρ S Qh → (∀ ρ' S' σ' H', Qh ρ' S' → Tk K H H' → RepS K H' σ' ρ' → Abs K H' S' → L2.wipe σ' vs = L2.wipe σ vs → Q σ' H') → g xs σ H Q
theorem wipe_set (σ : L2.St) (i : Nat) (x : Option V) : ∀ vs : List Nat, i ∈ vs → L2.wipe (σ.set i x) vs = L2.wipe σ vs
  | [], h => by cases h
  | v :: vs, h => by
    have wc : ∀ (l : List Nat) (τ : L2.St), L2.wipe (τ.set i x) l = if i ∈ l then L2.wipe τ l else (L2.wipe τ l).set i x := by
      intro l
      induction l with
      | nil => intro τ; simp [L2.wipe]
      | cons w l ih =>
        intro τ
        unfold L2.wipe
        rw [ih τ]
        by_cases hm : i ∈ l
        · simp [hm]
        · by_cases hw : i = w
          · subst hw; simp [hm, List.set_set]
          · simp [hm, hw, List.set_comm _ _ hw]
    rw [wc (v :: vs) σ, if_pos h]
theorem ng_name {K : PySem.W.Frag} {i : Nat} {vs : List Nat} (h : i ∈ vs) : NG K (gName i) (gN i) vs := fun v d σ H ρ S Qh Q r hσ hS q k => k _ S _ H q (Tk.refl H) (hσ.set i r) hS (wipe_set σ i _ vs h)
theorem ngs_nil {K : PySem.W.Frag} {vs : List Nat} : NGs K gNil gNilD vs := fun xs ds σ H ρ S Qh Q r hσ hS q k => by
  cases ds with
  | nil => exact ⟨r.nil_i, k _ S _ H q (Tk.refl H) hσ hS rfl⟩
  | cons d t => exact q.elim
theorem ngs_cons {K : PySem.W.Frag} {vs : List Nat} {g : TG} {dg : DG} {gs : TGs} {dgs : DGs} (h : NG K g dg vs) (hs : NGs K gs dgs vs) : NGs K (gCons g gs) (gConsD dg dgs) vs := fun xs ds σ H ρ S Qh Q r hσ hS q k => by
  cases ds with
  | nil => exact q.elim
  | cons d t =>
    obtain ⟨v, r', rfl, rv, rr⟩ := r.cons_i
    refine ⟨v, r', rfl, h v d σ H ρ S _ _ rv hσ hS q fun ρ1 S1 σ1 H1 q1 t1 r1 a1 e1 => hs r' t σ1 H1 ρ1 S1 Qh Q (rr.mono t1) r1 a1 q1 fun ρ2 S2 σ2 H2 q2 t2 r2 a2 e2 => k ρ2 S2 σ2 H2 q2 (t1.trans t2) r2 a2 (e2.trans e1)⟩
theorem ng_tup {K : PySem.W.Frag} {vs : List Nat} {gs : TGs} {dgs : DGs} {n : Nat} (hs : NGs K gs dgs vs) : NG K (gTup K n gs) (gT n dgs) vs := fun v d σ H ρ S Qh Q r hσ hS q k => by
  cases d with
  | tup ds =>
    obtain ⟨p, xs, rfl, hq, rl⟩ := r.i_tup
    exact ⟨p, xs, rfl, hq, by rw [rl.length]; exact q.1, hs xs ds σ H ρ S Qh Q rl hσ hS q.2 k⟩
  | _ => exact q.elim
def dYes : DT := fun _ S Q _ => Q true S
theorem c_nil {X : Cx} {W : WX} : PTs X [] (lowT X.K W dYes) := ⟨fun pins s σ H Q I ⟨ρ, S, Qh, Xh, hσ, hS, h, k, x⟩ => pts_nil.run pins s σ H Q I (k true S H h (Tk.refl H) hS)⟩
theorem c_one {X : Cx} {W : WX} {c : Expr} {dt : DT} (h : PT X c (lowT X.K W dt)) : PTs X [c] (lowT X.K W dt) := pts_one h
def LcGo (g : DG) (tt : DT) (te : DE) (vs : List Nat) (ρ : Rho) (Q : QD) (items : List Dv) (stay : Sto → Prop) (S1 : Sto) : Prop := ∀ p, S1 p = none → ∃ Wv : Nat → Sto → Prop, Wv 0 (put S1 p (.lst [])) ∧ (∀ i S, i ≤ items.length → Wv i S → stay S) ∧
  (∀ i x S, items[i]? = some x → Wv i S → g x (wipeD ρ vs) S fun ρ2 S2 => tt ρ2 S2 (fun b S3 => if b = true then te ρ2 S3 (fun y S4 => ∃ acc, S4 p = some (.lst acc) ∧ acc.length < sizeLine ∧ Wv (i + 1) (put S4 p (.lst (acc ++ [y])))) X0 else Wv (i + 1) S3) X0) ∧
  ∀ S, Wv items.length S → Q (.ref p) S
def dLc (di : DI) (g : DG) (tt : DT) (te : DE) (vs : List Nat) : DE := fun ρ S Q X => di ρ S (fun items stay S1 => LcGo g tt te vs ρ Q items stay S1) X
section
variable {X : Cx} {W : WX} {tg iter elt : Expr} {ifs : List Expr} {di : DI} {g : TG} {dg : DG} {dt : DT} {de : DE} {scope : Scope} {own : List (Str × Nat)} {pos spos : Pos}
theorem low_lc {K : PySem.W.Frag} {vs : List Nat} (ng : NG K g dg vs) : ∀ σ H Q, low K W (dLc di dg dt de vs) σ H Q → tLc (lowI K W di) g (lowT K W0 dt) (low K W0 de) vs σ H Q := fun σ H Q ⟨ρ, S, Qh, Xh, hσ, hS, h, k, x⟩ => by
  refine ⟨ρ, S, _, Xh, hσ, hS, h, fun items stay S1 J H1 q t1 a1 it p hp => ?_, x⟩
  obtain ⟨Wv, w0, st, step, done⟩ := q p (a1.free hp)
  refine ⟨fun i m H' => m = items.length - i ∧ i ≤ items.length ∧ Tk K H1 H' ∧ ∃ S', Abs K H' S' ∧ Wv i S', ⟨_, rfl, Nat.zero_le _, Tk.new hp, _, a1.new hp (.mlst upd_same .nil), w0⟩, ?_⟩
  rintro i m H' ⟨rfl, hi, t2, S', a2, w⟩
  by_cases hlt : i < items.length
  · obtain ⟨g1, g2⟩ := it.go i H' S' items[i] t2 a2 (st i S' hi w) (by simp [hlt])
    refine .inr ⟨g1, fun H' => Tk K H1 H' ∧ ∃ S', Abs K H' S' ∧ Wv (i + 1) S', fun H3 ⟨t3, z⟩ => ⟨items.length - (i + 1), by omega, rfl, hlt, t3, z⟩, fun v H3 y => ?_⟩
    obtain ⟨t3, r3, a3⟩ := g2 v H3 y
    have hw : RepS K H3 (L2.wipe σ vs) (wipeD ρ vs) := (hσ.mono (t1.trans (t2.trans t3))).wipe vs
    refine ng v items[i] (L2.wipe σ vs) H3 (wipeD ρ vs) S' _ _ r3 hw a3 (step i _ S' (by simp [hlt]) w) fun ρ4 S4 σ4 H4 q4 t4 r4 a4 e4 => ⟨e4.trans ?_, ρ4, S4, _, X0, r4, a4, q4, fun b S5 H5 q5 t5 a5 => ?_, lx0⟩
    · clear e4 r4 a4 q4 step st done it k x w hw
      have idem : ∀ (l : List Nat) (τ : L2.St) (j : Nat), j ∈ l → (L2.wipe τ l).set j none = L2.wipe τ l := by
        intro l
        induction l with
        | nil => intro τ j h; cases h
        | cons w l ih =>
          intro τ j h
          unfold L2.wipe
          by_cases hj : j = w
          · subst hj; rw [List.set_set]
          · rw [List.set_comm _ _ (Ne.symm hj), ih τ j ((List.mem_cons.mp h).resolve_left hj)]
      have all : ∀ (l m : List Nat) (τ : L2.St), (∀ j ∈ l, j ∈ m) → L2.wipe (L2.wipe τ m) l = L2.wipe τ m := by
        intro l
        induction l with
        | nil => intro m τ _; rfl
        | cons w l ih =>
          intro m τ h
          show (L2.wipe (L2.wipe τ m) l).set w none = _
          rw [ih m τ fun j hj => h j (List.mem_cons_of_mem _ hj)]
          exact idem m τ w (h w List.mem_cons_self)
      exact all vs vs σ fun _ h => h
    · cases b with
      | true =>
        refine iteT ⟨ρ4, S5, _, X0, r4.mono t5, a5, q5, fun d S6 v6 H6 q6 t6 r6 a6 => ?_, lx0⟩
        obtain ⟨acc, e6, l6, w6⟩ := q6
        obtain ⟨xs, h6, rl⟩ := a6 p _ e6
        have tw : Tk K H6 (upd H6 p (.lst (xs ++ [v6]))) := Tk.write h6 wr_lst
        refine ⟨xs, h6, by rw [rl.length]; exact l6, (((t2.trans t3).trans t4).trans t5).trans (t6.trans tw), _, a6.write h6 wr_lst (.mlst upd_same ((rl.mono tw).append (.cons (r6.mono tw) .nil))), w6⟩
      | false => exact iteF ⟨((t2.trans t3).trans t4).trans t5, S5, a5, q5⟩
  · have e : i = items.length := by omega
    subst e
    exact .inl ⟨it.stop H' S' t2 a2 (st _ S' hi w), k _ S' _ H' (done S' w) (t1.trans t2) (.ref p) a2⟩
theorem d_lc (hc : X.calm = true) (hN : X.N.Nodup) (hi : PI X tg iter (lowI X.K W di)) (ok : BlkOk X.N X.env.scope scope own)
    (hg : ∀ (s : Shared) (H : Hp) (C : Addr) (cl : List (Str × Addr)) (fp : List Addr), PG (X.blk s H scope (compEnvC scope cl C X.env) fp) tg g) (ng : NG X.K g dg (own.map (·.2)))
    (ht : ∀ (s : Shared) (H : Hp) (C : Addr) (cl : List (Str × Addr)) (fp : List Addr), PTs (X.blk s H scope (compEnvC scope cl C X.env) fp) ifs (lowT X.K W0 dt))
    (he : ∀ (s : Shared) (H : Hp) (C : Addr) (cl : List (Str × Addr)) (fp : List Addr), PE (X.blk s H scope (compEnvC scope cl C X.env) fp) elt (low X.K W0 de)) (hs : ∀ x, foldedSetIterable iter X.env x = pure x := by intro _; rfl) :
    PE X (.ListComp elt [⟨tg, iter, ifs, 0⟩] scope pos) (low X.K W (dLc di dg dt de (own.map (·.2)))) := pei (pe_lc hc hN hi ok hg ht he hs) (low_lc ng)
theorem s_setLc (i : Nat) {y : Str} {py : Pos} (hc : X.calm = true) (hN : X.N.Nodup) (hsw : swapsWith (.ListComp elt [⟨tg, iter, ifs, 0⟩] scope pos) (some (.Name y py)) spos.line X.env = pure true)
    (hi : PI X tg iter (lowI X.K W di)) (ok : BlkOk X.N X.env.scope scope own)
    (hg : ∀ (s : Shared) (H : Hp) (C : Addr) (cl : List (Str × Addr)) (fp : List Addr), PG (X.blk s H scope (compEnvC scope cl C X.env) fp) tg g) (ng : NG X.K g dg (own.map (·.2)))
    (ht : ∀ (s : Shared) (H : Hp) (C : Addr) (cl : List (Str × Addr)) (fp : List Addr), PTs (X.blk s H scope (compEnvC scope cl C X.env) fp) ifs (lowT X.K W0 dt))
    (he : ∀ (s : Shared) (H : Hp) (C : Addr) (cl : List (Str × Addr)) (fp : List Addr), PE (X.blk s H scope (compEnvC scope cl C X.env) fp) elt (low X.K W0 de))
    (hy : X.N[i]? = some y := by rfl) (hyl : X.env.scope.names.lookup y = some .local := by rfl) (hs : ∀ x, foldedSetIterable iter X.env x = pure x := by intro _; rfl) :
    PS X (.Assign [.Name y py] (.ListComp elt [⟨tg, iter, ifs, 0⟩] scope pos) spos) (lowS X.K W (dAsg (dLc di dg dt de (own.map (·.2))) (gN i))) := psi (ps_setLc hc hN hy hyl hsw hi ok hg ht he hs) fun D σ H ⟨ρ, S, Dh, hσ, hS, h, k⟩ => by
  exact low_lc ng σ H _ ⟨ρ, S, _, _, hσ, hS, h, fun d S1 v H1 q t r a => k.nx _ S1 _ H1 q t ((hσ.mono t).set i r) a, k.lx hσ⟩
end
end VD

namespace VD
open PySem PySem.Spec PyProof.Rows L2

/-! ### operators -/
section
variable {K : PySem.W.Frag} {X : Cx}
def rdAdd : RD2 := fun x y S Q => match x, y with
  | .int i, .int j => Q (.int (i + j)) S
  | .tup xs, .tup ys => xs.length + ys.length ≤ sizeLine ∧ Q (.tup (xs ++ ys)) S
  | .str a, .str b => a.length + b.length ≤ sizeLine ∧ Q (.str (a ++ b)) S
  | .ref a, .ref b => match S a, S b with
    | some (.lst xs), some (.lst ys) => xs.length + ys.length ≤ sizeLine ∧ ∀ p, S p = none → Q (.ref p) (put S p (.lst (xs ++ ys)))
    | _, _ => False
  | _, _ => False
abbrev rAddA (K : PySem.W.Frag) : R2 := fun x y H Q => rI0 (fun i j => .int (i + j)) x y H Q ∨ rCatA K x y H Q ∨ (∃ i j, x = .str i ∧ y = .str j ∧ i.length + j.length ≤ sizeLine ∧ Q (.str (i ++ j)) H) ∨ rCat x y H Q
theorem op_addA : OpR X (binaryOp .Add) (rAddA X.K) := op_add.or (op_catA.or (op_add_str.or op_cat))
theorem l_add : LR2 K (rAddA K) rdAdd := by
  intro x y H dx dy S Qh Q rx ry hS h k
  unfold rdAdd at h
  split at h
  · exact .inl ⟨_, _, rx.i_int, ry.i_int, k.now h (.int _) hS⟩
  · obtain ⟨a, xs, rfl, ha, la⟩ := rx.i_tup
    obtain ⟨b, ys, rfl, hb, lb⟩ := ry.i_tup
    obtain ⟨hl, q⟩ := h
    refine .inr (.inl ⟨a, b, xs, ys, rfl, rfl, ha, hb, by rw [la.length, lb.length]; exact hl, fun e => ?_, fun e e' => ?_, fun e e' p hp => ?_⟩)
    · rw [la.nil_iff.mp e] at q
      exact k.now q (.tup hb lb) hS
    · rw [lb.nil_iff.mp e', List.append_nil] at q
      exact k.now q (.tup ha la) hS
    · exact k _ _ _ _ q (Tk.new hp) (.tup (.inl (.inl upd_same)) ((la.mono (Tk.new hp)).append (lb.mono (Tk.new hp)))) (hS.tup hp)
  · exact .inr (.inr (.inl ⟨_, _, rx.i_str, ry.i_str, h.1, k.now h.2 (.str _) hS⟩))
  · rename_i a b
    split at h
    · rename_i xs ys ea eb
      obtain ⟨us, h1, l1⟩ := hS _ _ ea
      obtain ⟨vs, h2, l2⟩ := hS _ _ eb
      exact .inr (.inr (.inr ⟨a, b, us, vs, rx.i_ref, ry.i_ref, h1, h2, by rw [l1.length, l2.length]; exact h.1, fun p hp => k _ _ _ _ (h.2 p (hS.free hp)) (Tk.new hp) (.ref p) (hS.new hp (.mlst upd_same ((l1.mono (Tk.new hp)).append (l2.mono (Tk.new hp)))))⟩))
    · exact h.elim
  · exact h.elim
def rdSub : RD2 := fun x y S Q => match x, y with
  | .int i, .int j => Q (.int (i - j)) S
  | _, _ => False
theorem l_sub : LR2 K (rI0 fun i j => .int (i - j)) rdSub := by
  intro x y H dx dy S Qh Q rx ry hS h k
  unfold rdSub at h
  split at h
  · exact ⟨_, _, rx.i_int, ry.i_int, k.now h (.int _) hS⟩
  · exact h.elim
/-- a product fits -/
theorem mulok_l {i j : Int} (h1 : -(2 ^ 64) < i) (h2 : i < 2 ^ 64) : IntMulOk i j := .of_left (intBits_le_64 h1 h2)
theorem mulok_r {i j : Int} (h1 : -(2 ^ 64) < j) (h2 : j < 2 ^ 64) : IntMulOk i j := .of_right (intBits_le_64 h1 h2)
theorem op_mulK : OpR X (binaryOp .Mult) (rI IntMulOk fun i j => .int (i * j)) := opI fun _ _ _ _ _ _ _ hc q => mul_int q hc
/-- the same tuple -/
theorem tuple_mulS (l : Addr) (items : Array Value) (n : Nat) (dd : Option Addr) (sl : Array (Option Value)) (x : Int) (u : Tok) (c0 : (decide (x < -(2 ^ 63)) || decide (x ≥ 2 ^ 63)) = false) (c1 : (items.isEmpty || x == 1) = true) :
    Meets (Builtin.«tuple.__mul__» ⟨[.ref l, .int x u], []⟩) (fun _ R s => s.heap.get? l = some { cls := .type "tuple", dict := dd, data := .seq items n, slots := sl } ∧ R (.ok (.ret (Value.ref l))) s) :=
  .of_wp fun prog w A R s h => by
    obtain ⟨hp, g, d, tk, os⟩ := s
    obtain ⟨hl, h⟩ := h
    have f1 := AutoSeq1.idx_int
    wp_walk using wpAny_loadPart' hl
    repeat (first
      | (refine wpAny_ite_false (decide_eq_false (by rw [c0]; exact Bool.false_ne_true)) ?_; wp_walk using wpAny_loadPart' hl)
      | (refine wpAny_ite_true (decide_eq_true c1) ?_; wp_walk using wpAny_loadPart' hl))
    exact ⟨_, rfl, h⟩
def rRepS (K : PySem.W.Frag) : R2 := fun x y H Q => ∃ l k xs, x = .ref l ∧ y = .int k ∧ SqT K H l xs ∧ (xs = [] ∨ k = 1) ∧ 1 ≤ k ∧ k ≤ 1000 ∧ Q (.ref l) H
theorem op_repS : OpR X (binaryOp .Mult) (rRepS X.K) := by
  intro pins s σ H x y v u Q I rx ry h
  obtain ⟨l, k, xs, rfl, rfl, hT, hne, h1, h2, q⟩ := h
  cases rx
  obtain ⟨t, rfl⟩ := ry
  obtain ⟨its, r, ⟨⟨cls, dd, data, sl⟩, ho, hc, n, hd⟩, hs⟩ := I.tuple hT
  simp only at hc hd
  subst hc hd
  have c0 : (decide (k < -(2 ^ 63)) || decide (k ≥ 2 ^ 63)) = false := by
    rw [decide_eq_false (by omega), decide_eq_false (by omega)] <;> rfl
  have c1 : (its.toArray.isEmpty || k == 1) = true := by
    rcases hne with e | e
    · subst e; cases r; rfl
    · subst e; simp
  refine wpAny_binaryOp_repeat_ref (T := "tuple") (U := "int") (by decide) ⟨_, ho, rfl⟩ (fun s' => typeIs_int s' k t) noFill_tuple_mul F.fills_int_mul F.slot_int_rmul repeat_tuple F.slot_int_index.lookup
    (call_meets F.slot_int_rmul (typeIs_int s k t) F.entry_int_rmul (F.args_int_rmul_2 _ _) (int_rmul_tuple k t l its.toArray n dd sl)
      ⟨ho, rfl, ⟨_, ho, rfl⟩, call_meets F.slot_tuple_mul ⟨_, ho, rfl⟩ F.entry_tuple_mul (F.args_tuple_mul_2 _ _) (tuple_mulS l its.toArray n dd sl k t c0 c1) ⟨ho, ?_⟩⟩)
  exact ⟨.ref l, H, I, rfl, q⟩
def rdMul : RD2 := fun x y S Q => match x, y with
  | .int i, .int j => IntMulOk i j ∧ Q (.int (i * j)) S
  | .tup xs, .int k => (1 ≤ k ∧ k ≤ 1000 ∧ xs.length ≤ 1000) ∧ Q (.tup (List.replicate k.toNat xs).flatten) S
  | .ref a, .int k => match S a with
    | some (.lst xs) => (-(2 ^ 63) ≤ k ∧ k < 2 ^ 63 ∧ xs.length * k.toNat ≤ sizeLine) ∧ ∀ p, S p = none → Q (.ref p) (put S p (.lst (List.replicate k.toNat xs).flatten))
    | _ => False
  | _, _ => False
abbrev rMulA (K : PySem.W.Frag) : R2 := fun x y H Q => rI IntMulOk (fun i j => .int (i * j)) x y H Q ∨ rRepS K x y H Q ∨ rRepT K x y H Q ∨ rRep x y H Q
theorem op_mulA : OpR X (binaryOp .Mult) (rMulA X.K) := op_mulK.or (op_repS.or (op_repT.or op_rep))
theorem flat_nil {α : Type} : ∀ k : Nat, (List.replicate k ([] : List α)).flatten = []
  | 0 => rfl
  | k + 1 => by rw [List.replicate_succ, List.flatten_cons, flat_nil k]; rfl
theorem l_mul : LR2 K (rMulA K) rdMul := by
  intro x y H dx dy S Qh Q rx ry hS h k
  unfold rdMul at h
  split at h
  · exact .inl ⟨_, _, rx.i_int, ry.i_int, h.1, k.now h.2 (.int _) hS⟩
  · rename_i xs m
    obtain ⟨a, us, rfl, ha, la⟩ := rx.i_tup
    obtain ⟨⟨h1, h2, h3⟩, q⟩ := h
    by_cases e : us = [] ∨ m = 1
    · refine .inr (.inl ⟨a, m, us, rfl, ry.i_int, ha, e, h1, h2, ?_⟩)
      have e2 : (List.replicate m.toNat xs).flatten = xs := by
        rcases e with e | e
        · rw [la.nil_iff.mp e, flat_nil]
        · subst e; simp
      rw [e2] at q
      exact k.now q (.tup ha la) hS
    · have e1 : us ≠ [] := fun z => e (.inl z)
      have e2 : m ≠ 1 := fun z => e (.inr z)
      refine .inr (.inr (.inl ⟨a, m, us, rfl, ry.i_int, ha, e1, by omega, h2, by rw [la.length]; exact h3, fun p hp => ?_⟩))
      exact k _ _ _ _ q (Tk.new hp) (.tup (.inl (.inl upd_same)) ((la.mono (Tk.new hp)).rep _)) (hS.tup hp)
  · rename_i a m
    split at h
    · rename_i xs ea
      obtain ⟨us, h1, l1⟩ := hS _ _ ea
      obtain ⟨⟨b1, b2, b3⟩, q⟩ := h
      exact .inr (.inr (.inr ⟨a, m, us, rx.i_ref, ry.i_int, h1, b1, b2, by rw [l1.length]; exact b3, fun p hp => k _ _ _ _ (q p (hS.free hp)) (Tk.new hp) (.ref p) (hS.new hp (.mlst upd_same ((l1.mono (Tk.new hp)).rep _)))⟩))
    · exact h.elim
  · exact h.elim
/-- // and % by a positive number -/
def CDivP (i j : Int) : Prop := 0 < j ∧ j.natAbs.log2 < 9000
theorem op_divP : OpR X (binaryOp .FloorDiv) (rI CDivP fun i j => .int (i / j)) := opI fun i j _ _ _ _ _ hc q => by
  have h1 : (0 : Int) < j := hc.1
  exact floordiv_int (by omega) (by rw [Int.fdiv_eq_ediv_of_nonneg i (by omega)]; exact q) (.inl (PyProof.noPylong_of_log2 hc.2))
theorem divp {i j : Int} (b : Nat) (h : 0 < j) (hb : j.natAbs < 2 ^ b) (h0 : 0 < b := by decide) (h9 : b ≤ 9000 := by decide) : CDivP i j := ⟨h, Nat.lt_of_lt_of_le (PySem.Flt.log2_lt_of h0 hb) h9⟩
def rdDiv : RD2 := fun x y S Q => match x, y with
  | .int i, .int j => CDivP i j ∧ Q (.int (i / j)) S
  | _, _ => False
theorem l_div : LR2 K (rI CDivP fun i j => .int (i / j)) rdDiv := by
  intro x y H dx dy S Qh Q rx ry hS h k
  unfold rdDiv at h
  split at h
  · exact ⟨_, _, rx.i_int, ry.i_int, h.1, k.now h.2 (.int _) hS⟩
  · exact h.elim
def rdMod : RD2 := fun x y S Q => match x, y with
  | .int i, .int j => 0 < j ∧ Q (.int (i % j)) S
  | _, _ => False
theorem l_mod : LR2 K (rI (fun _ j => 0 < j) fun i j => .int (i % j)) rdMod := by
  intro x y H dx dy S Qh Q rx ry hS h k
  unfold rdMod at h
  split at h
  · exact ⟨_, _, rx.i_int, ry.i_int, h.1, k.now h.2 (.int _) hS⟩
  · exact h.elim
def rdPow : RD2 := fun x y S Q => match x, y with
  | .int i, .int j => CPow i j ∧ Q (.int (i ^ j.toNat)) S
  | _, _ => False
theorem l_pow : LR2 K (rI CPow fun i j => .int (i ^ j.toNat)) rdPow := by
  intro x y H dx dy S Qh Q rx ry hS h k
  unfold rdPow at h
  split at h
  · exact ⟨_, _, rx.i_int, ry.i_int, h.1, k.now h.2 (.int _) hS⟩
  · exact h.elim
/-- + in place, of ints -/
def rdIAdd : RD2 := fun x y S Q => match x, y with
  | .int i, .int j => Q (.int (i + j)) S
  | _, _ => False
theorem l_iadd : LR2 K (rI0 fun i j => .int (i + j)) rdIAdd := by
  intro x y H dx dy S Qh Q rx ry hS h k
  unfold rdIAdd at h
  split at h
  · exact ⟨_, _, rx.i_int, ry.i_int, k.now h (.int _) hS⟩
  · exact h.elim
/-! one-place -/
variable {W : WX} {a b e : Expr} {da : DE} {pos : Pos}
def dNeg (da : DE) : DE := fun ρ S Q X => da ρ S (fun x S1 => match x with | .int i => Q (.int (-i)) S1 | _ => False) X
theorem d_neg (ha : PE X a (low X.K W da)) : PE X (.UnaryOp .USub a pos) (low X.K W (dNeg da)) := pei (pe_un un_neg ha) fun σ H Q ⟨ρ, S, Qh, Xh, hσ, hS, h, k, x⟩ =>
  ⟨ρ, S, _, Xh, hσ, hS, h, fun d1 S1 v1 H1 q1 t1 r1 a1 => by
    cases d1 with
    | int i => exact ⟨i, r1.i_int, (k.mono t1).now q1 (.int _) a1⟩
    | _ => exact q1.elim, x⟩

/-! ### comparisons -/
mutual
def py : Dv → PyData
  | .non => .none
  | .bl b => .bool b
  | .int i => .int i
  | .str x => .str x
  | .tup xs => .tuple (pyL xs)
  | .rol xs => .list (pyL xs)
  | .ty _ => .none
  | .ref _ => .none
def pyL : List Dv → List PyData
  | [] => []
  | x :: xs => py x :: pyL xs
/-- data all through -/
def isD : Dv → Bool
  | .non | .bl _ | .int _ | .str _ => true
  | .tup xs | .rol xs => isDL xs
  | .ty _ | .ref _ => false
def isDL : List Dv → Bool
  | [] => true
  | x :: xs => isD x && isDL xs
end
mutual
theorem Rep.dp {H : Hp} : ∀ (d : Dv) {v : V}, Rep K H v d → isD d = true → Dp K H v (py d)
  | .non, _, h, _ => by rw [h.i_non]; exact .non
  | .bl b, _, h, _ => by rw [h.i_bl]; exact .bl b
  | .int b, _, h, _ => by rw [h.i_int]; exact .int b
  | .str b, _, h, _ => by rw [h.i_str]; exact .str b
  | .tup xs, _, h, e => by
    obtain ⟨p, us, rfl, hs, l⟩ := h.i_tup
    exact .tup hs (RepL.dp xs l (by simpa [isD] using e))
  | .rol xs, _, h, e => by
    obtain ⟨p, us, rfl, hs, l⟩ := h.i_rol
    exact .lst hs.sq (RepL.dp xs l (by simpa [isD] using e))
  | .ty _, _, _, e => by cases e
  | .ref _, _, _, e => by cases e
theorem RepL.dp {H : Hp} : ∀ (ds : List Dv) {vs : List V}, RepL K H vs ds → isDL ds = true → DpAll K H vs (pyL ds)
  | [], _, h, _ => by rw [h.nil_i]; exact .nil
  | d :: ds, _, h, e => by
    obtain ⟨v, r, rfl, h1, h2⟩ := h.cons_i
    simp only [isDL, Bool.and_eq_true] at e
    exact .cons (Rep.dp d h1 e.1) (RepL.dp ds h2 e.2)
end
def shp (d : Dv) : Bool := isD d && SeqAt.shaped (py d)
def shpL (ds : List Dv) : Bool := isDL ds && SeqAt.shaped (.list (pyL ds))
def eqvD (x y : Dv) : Bool := PyData.eqv (py x) (py y)
def eqvL (x y : List Dv) : Bool := PyData.eqvAll (pyL x) (pyL y)
def rdEqG (f : Bool → Bool) : RD2 := fun x y S Q => match x, y with
  | .int i, .int j => Q (.bl (f (decide (i = j)))) S
  | .bl i, .bl j => Q (.bl (f (decide (i = j)))) S
  | .str i, .str j => Q (.bl (f (decide (i = j)))) S
  | .ref a, .ref b => match S a, S b with
    | some (.lst xs), some (.lst ys) => shpL xs = true ∧ shpL ys = true ∧ Q (.bl (f (eqvL xs ys))) S
    | _, _ => False
  | .tup xs, .tup ys => (shp (.tup xs) = true ∧ shp (.tup ys) = true) ∧ Q (.bl (f (eqvL xs ys))) S
  | x, y => (shp x = true ∧ shp y = true) ∧ Q (.bl (f (eqvD x y))) S
abbrev rdEq := rdEqG fun b => b
abbrev rdNe := rdEqG fun b => !b
theorem dec_congr {p q : Prop} [Decidable p] [Decidable q] (h : p ↔ q) : decide p = decide q := by
  by_cases hp : p
  · rw [decide_eq_true hp, decide_eq_true (h.mp hp)]
  · rw [decide_eq_false hp, decide_eq_false fun z => hp (h.mpr z)]
/-- == (f the identity), != (f not) -/
def rEqG (K : PySem.W.Frag) (f : Bool → Bool) : R2 := fun x y H Q => (scal x y = true ∧ Q (.bl (f (decide (x = y)))) H) ∨ ∃ d e, Dp K H x d ∧ Dp K H y e ∧ SeqAt.shaped d = true ∧ SeqAt.shaped e = true ∧ Q (.bl (f (PyData.eqv d e))) H
theorem op_eqA (hu : X.A.units + 64 < cLine) : OpR X (compareOp .Eq) (rEqG X.K fun b => b) := op_eq.or (op_eqD hu)
theorem op_neA (hu : X.A.units + 64 < cLine) : OpR X (compareOp .NotEq) (rEqG X.K fun b => !b) := op_ne.or (op_neD hu)
theorem shp_i {d : Dv} (h : shp d = true) : isD d = true ∧ SeqAt.shaped (py d) = true := by
  unfold shp at h
  rwa [Bool.and_eq_true] at h
theorem l_eq {f : Bool → Bool} : LR2 K (rEqG K f) (rdEqG f) := by
  intro x y H dx dy S Qh Q rx ry hS h k
  unfold rdEqG at h
  split at h
  · rw [rx.i_int, ry.i_int]
    refine .inl ⟨rfl, ?_⟩
    rw [dec_congr (q := _ = _) ⟨V.int.inj, congrArg V.int⟩]
    exact k.now h (.bl _) hS
  · rw [rx.i_bl, ry.i_bl]
    refine .inl ⟨rfl, ?_⟩
    rw [dec_congr (q := _ = _) ⟨V.bl.inj, congrArg V.bl⟩]
    exact k.now h (.bl _) hS
  · rw [rx.i_str, ry.i_str]
    refine .inl ⟨rfl, ?_⟩
    rw [dec_congr (q := _ = _) ⟨V.str.inj, congrArg V.str⟩]
    exact k.now h (.bl _) hS
  · split at h
    · rename_i a b _ _ xs ys ea eb
      obtain ⟨us, h1, l1⟩ := hS _ _ ea
      obtain ⟨vs, h2, l2⟩ := hS _ _ eb
      obtain ⟨s1, s2, q⟩ := h
      unfold shpL at s1 s2
      rw [Bool.and_eq_true] at s1 s2
      rw [rx.i_ref, ry.i_ref]
      exact .inr ⟨_, _, .lst (.inl (.inl h1)) (RepL.dp _ l1 s1.1), .lst (.inl (.inl h2)) (RepL.dp _ l2 s2.1), s1.2, s2.2, k.now q (.bl _) hS⟩
    · exact h.elim
  · obtain ⟨⟨s1, s2⟩, q⟩ := h
    exact .inr ⟨_, _, Rep.dp _ rx (shp_i s1).1, Rep.dp _ ry (shp_i s2).1, (shp_i s1).2, (shp_i s2).2, k.now q (.bl _) hS⟩
  · obtain ⟨⟨s1, s2⟩, q⟩ := h
    exact .inr ⟨_, _, Rep.dp _ rx (shp_i s1).1, Rep.dp _ ry (shp_i s2).1, (shp_i s1).2, (shp_i s2).2, k.now q (.bl _) hS⟩
def rdCmp (p : Int → Int → Bool) : RD2 := fun x y S Q => match x, y with
  | .int i, .int j => Q (.bl (p i j)) S
  | _, _ => False
abbrev rdLt := rdCmp fun i j => decide (i < j)
abbrev rdLe := rdCmp fun i j => decide (i ≤ j)
abbrev rdGt := rdCmp fun i j => decide (j < i)
abbrev rdGe := rdCmp fun i j => decide (j ≤ i)
theorem l_cmp {p : Int → Int → Bool} : LR2 K (rI0 fun i j => .bl (p i j)) (rdCmp p) := by
  intro x y H dx dy S Qh Q rx ry hS h k
  unfold rdCmp at h
  split at h
  · exact ⟨_, _, rx.i_int, ry.i_int, k.now h (.bl _) hS⟩
  · exact h.elim
/-- is None, is not None -/
def isNon : Dv → Bool
  | .non => true
  | _ => false
def rdIsN (f : Bool → Bool) : RD2 := fun x y S Q => match y with
  | .non => Q (.bl (f (isNon x))) S
  | _ => False
theorem isNon_v {H : Hp} {x : V} {d : Dv} (r : Rep K H x d) : decide (x = .non) = isNon d := by
  cases r <;> rfl
theorem l_isN : LR2 K (fun x y H Q => y = .non ∧ Q (.bl (decide (x = .non))) H) (rdIsN fun b => b) := by
  intro x y H dx dy S Qh Q rx ry hS h k
  unfold rdIsN at h
  split at h
  · exact ⟨ry.i_non, by rw [isNon_v rx]; exact k.now h (.bl _) hS⟩
  · exact h.elim
theorem l_notN : LR2 K (fun x y H Q => y = .non ∧ Q (.bl (!decide (x = .non))) H) (rdIsN fun b => !b) := by
  intro x y H dx dy S Qh Q rx ry hS h k
  unfold rdIsN at h
  split at h
  · exact ⟨ry.i_non, by rw [isNon_v rx]; exact k.now h (.bl _) hS⟩
  · exact h.elim
end
/-! ### displays, subscripts, slices -/
section
variable {K : PySem.W.Frag} {X : Cx} {W : WX} {a b e : Expr} {es : List Expr} {da db : DE} {das : DA} {pos : Pos}
def dTup (das : DA) : DE := fun ρ S Q X => das ρ S (fun ds S1 => ds.length ≤ sizeLine ∧ Q (.tup ds) S1) X
theorem d_tup {x1} (h : PA X es (lowA X.K W das)) : PE X (.Tuple es x1 pos) (low X.K W (dTup das)) := pei (pe_tup h) fun σ H Q ⟨ρ, S, Qh, Xh, hσ, hS, h, k, x⟩ =>
  ⟨ρ, S, _, Xh, hσ, hS, h, fun ds S1 vs H1 q1 t1 r1 a1 => ⟨by rw [r1.length]; exact q1.1, fun p hp => k _ _ _ _ q1.2 (t1.trans (Tk.new hp)) (.tup (.inl (.inl upd_same)) (r1.mono (Tk.new hp))) (a1.tup hp)⟩, x⟩
def dLst (das : DA) : DE := fun ρ S Q X => das ρ S (fun ds S1 => ds.length ≤ sizeLine ∧ ∀ p, S1 p = none → Q (.ref p) (put S1 p (.lst ds))) X
theorem d_lst (h : PA X es (lowA X.K W das)) : PE X (.List es pos) (low X.K W (dLst das)) := pei (pe_lst h) fun σ H Q ⟨ρ, S, Qh, Xh, hσ, hS, h, k, x⟩ =>
  ⟨ρ, S, _, Xh, hσ, hS, h, fun ds S1 vs H1 q1 t1 r1 a1 => ⟨by rw [r1.length]; exact q1.1, fun p hp => k _ _ _ _ (q1.2 p (a1.free hp)) (t1.trans (Tk.new hp)) (.ref p) (a1.new hp (.mlst upd_same (r1.mono (Tk.new hp))))⟩, x⟩
theorem atI_len {α β : Type} {xs : List α} {ys : List β} {i : Int} {y : β} (hl : xs.length = ys.length) (h : atI ys i = some y) (P : β → α → Prop) (hp : ∀ (j : Nat) y, ys[j]? = some y → ∃ x, xs[j]? = some x ∧ P y x) : ∃ x, atI xs i = some x ∧ P y x := by
  unfold atI at h ⊢
  rw [hl]
  cases e : ixN ys.length i with
  | none => rw [e] at h; cases h
  | some j =>
    rw [e] at h
    exact hp j y h
def rdIx : RD2 := fun x y S Q => match x, y with
  | .tup xs, .int i => ∃ d, atI xs i = some d ∧ Q d S
  | .rol xs, .int i => ∃ d, atI xs i = some d ∧ Q d S
  | .ref a, .int i => match S a with
    | some (.lst xs) => ∃ d, atI xs i = some d ∧ Q d S
    | _ => False
  | .str z, .int i => z.length ≤ sizeLine ∧ ∃ c, atI z.cps.toList i = some c ∧ Q (.str ⟨#[c]⟩) S
  | _, _ => False
theorem l_ix : LR2 K (rIx K) rdIx := by
  intro x y H dx dy S Qh Q rx ry hS h k
  unfold rdIx at h
  split at h
  · obtain ⟨a, us, rfl, ha, la⟩ := rx.i_tup
    obtain ⟨d, hd, q⟩ := h
    obtain ⟨v, hv, rv⟩ := atI_len la.length hd (fun d v => Rep K H v d) fun j y hy => la.get hy
    exact .inr (.inl ⟨a, us, _, v, rfl, ry.i_int, ha, hv, k.now q rv hS⟩)
  · obtain ⟨a, us, rfl, ha, la⟩ := rx.i_rol
    obtain ⟨d, hd, q⟩ := h
    obtain ⟨v, hv, rv⟩ := atI_len la.length hd (fun d v => Rep K H v d) fun j y hy => la.get hy
    exact .inl ⟨a, us, _, v, rfl, ry.i_int, ha.sq, hv, k.now q rv hS⟩
  · rename_i a i
    split at h
    · rename_i xs ea
      obtain ⟨us, h1, la⟩ := hS _ _ ea
      obtain ⟨d, hd, q⟩ := h
      obtain ⟨v, hv, rv⟩ := atI_len la.length hd (fun d v => Rep K H v d) fun j y hy => la.get hy
      exact .inl ⟨a, us, _, v, rx.i_ref, ry.i_int, .inl (.inl h1), hv, k.now q rv hS⟩
    · exact h.elim
  · obtain ⟨hz, c, hc, q⟩ := h
    exact .inr (.inr ⟨_, _, c, rx.i_str, ry.i_int, hz, hc, k.now q (.str _) hS⟩)
  · exact h.elim
theorem d_ix (ha : PE X a (low X.K W da)) (hb : PE X b (low X.K W db)) (hs : PlainIx b := by intro _ _; rfl) : PE X (.Subscript a b pos) (low X.K W (dOp rdIx da db)) := pei (pe_ix ix_seq ha hb hs) (low_op l_ix)
/-- xs[i] = v -/
def rdSet : RDS := fun o i d S Q => match o, i with
  | .ref a, .int k => match S a with
    | some (.lst xs) => ∃ j, ixN xs.length k = some j ∧ Q (put S a (.lst (xs.set j d)))
    | _ => False
  | _, _ => False
theorem l_set : LRS K rSetL rdSet := by
  intro o i v H dO dI d S Qh Q rO rI r hS h k
  unfold rdSet at h
  split at h
  · rename_i a m
    split at h
    · rename_i xs ea
      obtain ⟨us, h1, la⟩ := hS _ _ ea
      obtain ⟨j, hj, q⟩ := h
      have tw : Tk K H (upd H a (.lst (us.set j v))) := Tk.write h1 wr_lst
      exact ⟨a, us, m, j, rO.i_ref, rI.i_int, h1, by rw [la.length]; exact hj, k _ _ q tw (hS.write h1 wr_lst (.mlst upd_same ((la.mono tw).set j (r.mono tw))))⟩
    · exact h.elim
  · exact h.elim
/-! slices -/
variable {dl dh : DO}
def oNone : DO := fun _ S Q _ => Q none S
def oSome (de : DE) : DO := fun ρ S Q X => de ρ S (fun d S1 => match d with | .int i => Q (some i) S1 | _ => False) X
theorem o_none : PO X none (lowO X.K W oNone) := poi po_none fun σ H Q ⟨ρ, S, Qh, Xh, hσ, hS, h, k, x⟩ => k _ S H h (Tk.refl H) hS
theorem o_some {de : DE} (h : PE X e (low X.K W de)) : PO X (some e) (lowO X.K W (oSome de)) := poi (po_some h) fun σ H Q ⟨ρ, S, Qh, Xh, hσ, hS, h, k, x⟩ =>
  ⟨ρ, S, _, Xh, hσ, hS, h, fun d S1 v H1 q t r a => by
    cases d with
    | int i => exact ⟨i, r.i_int, k _ S1 H1 q t a⟩
    | _ => exact q.elim, x⟩
def cutD {α : Type} (xs : List α) (lo hi : Option Int) : List α := (xs.drop (HT.sIx xs.length 0 lo)).take (HT.sIx xs.length xs.length hi - HT.sIx xs.length 0 lo)
theorem cut_rep {H : Hp} {vs : List V} {ds : List Dv} (l : RepL K H vs ds) (lo hi : Option Int) : RepL K H (cutV vs lo hi) (cutD ds lo hi) := by
  unfold cutV cutD
  rw [l.length]
  exact (l.drop _).take _
theorem cut_whole {α : Type} {xs : List α} {lo hi : Option Int} (h : HT.sIx xs.length 0 lo = 0 ∧ HT.sIx xs.length xs.length hi = xs.length) : cutD xs lo hi = xs := by
  unfold cutD
  rw [h.1, h.2, List.drop_zero, Nat.sub_zero, List.take_length]
def rdSl (x : Dv) (lo hi : Option Int) (S : Sto) (Q : QD) : Prop := match x with
  | .tup xs => Q (.tup (cutD xs lo hi)) S
  | .rol xs => ∀ p, S p = none → Q (.ref p) (put S p (.lst (cutD xs lo hi)))
  | .ref a => match S a with
    | some (.lst xs) => ∀ p, S p = none → Q (.ref p) (put S p (.lst (cutD xs lo hi)))
    | _ => False
  | .str z => z.length ≤ sizeLine ∧ Q (.str (cutS z lo hi)) S
  | _ => False
def dSl (de : DE) (dl dh : DO) : DE := fun ρ S Q X => de ρ S (fun d S1 => dl ρ S1 (fun lo S2 => dh ρ S2 (fun hi S3 => rdSl d lo hi S3 Q) X) X) X
def rSlAll (K : PySem.W.Frag) : V → Option Int → Option Int → Hp → VK → Prop := fun x lo hi H Q => rSlA K x lo hi H Q ∨ rSlL K x lo hi H Q ∨ rSlS x lo hi H Q
theorem sl_all : SlR X (rSlAll X.K) := sl_tupA.or (sl_list.or sl_str)
theorem l_sl {x : V} {d : Dv} {lo hi : Option Int} {H : Hp} {S : Sto} {Qh : QD} {Q : VK} (rx : Rep K H x d) (hS : Abs K H S) (h : rdSl d lo hi S Qh) (k : Lk K H Qh Q) : rSlAll K x lo hi H Q := by
  unfold rdSl at h
  split at h
  · rename_i xs
    obtain ⟨a, us, rfl, ha, la⟩ := rx.i_tup
    refine .inl ⟨a, us, rfl, ha, fun e => ?_, fun _ p hp => k _ _ _ _ h (Tk.new hp) (.tup (.inl (.inl upd_same)) ((cut_rep la lo hi).mono (Tk.new hp))) (hS.tup hp)⟩
    rw [la.length] at e
    rw [cut_whole e] at h
    exact k.now h (.tup ha la) hS
  · obtain ⟨a, us, rfl, ha, la⟩ := rx.i_rol
    exact .inr (.inl ⟨a, us, rfl, ha.sq, fun p hp => k _ _ _ _ (h p (hS.free hp)) (Tk.new hp) (.ref p) (hS.new hp (.mlst upd_same ((cut_rep la lo hi).mono (Tk.new hp))))⟩)
  · rename_i a
    split at h
    · rename_i xs ea
      obtain ⟨us, h1, la⟩ := hS _ _ ea
      exact .inr (.inl ⟨a, us, rx.i_ref, .inl (.inl h1), fun p hp => k _ _ _ _ (h p (hS.free hp)) (Tk.new hp) (.ref p) (hS.new hp (.mlst upd_same ((cut_rep la lo hi).mono (Tk.new hp))))⟩)
    · exact h.elim
  · exact .inr (.inr ⟨_, rx.i_str, h.1, k.now h.2 (.str _) hS⟩)
  · exact h.elim
theorem d_sl {lo hi : Option Expr} {p2 : Pos} (he : PE X e (low X.K W da)) (hl : PO X lo (lowO X.K W dl)) (hu : PO X hi (lowO X.K W dh)) : PE X (.Subscript e (.Slice lo hi none p2) pos) (low X.K W (dSl da dl dh)) := pei (pe_slice sl_all he hl hu) fun σ H Q ⟨ρ, S, Qh, Xh, hσ, hS, h, k, x⟩ =>
  ⟨ρ, S, _, Xh, hσ, hS, h, fun d1 S1 v1 H1 q1 t1 r1 a1 => ⟨ρ, S1, _, Xh, hσ.mono t1, a1, q1, fun lo S2 H2 q2 t2 a2 => ⟨ρ, S2, _, Xh, hσ.mono (t1.trans t2), a2, q2, fun hi S3 H3 q3 t3 a3 =>
    l_sl (r1.mono (t2.trans t3)) a3 q3 (k.mono ((t1.trans t2).trans t3)), x.mono (t1.trans t2)⟩, x.mono t1⟩, x⟩

/-! ### builtins -/
def rdLen : RDC := fun ds S Q => match ds with
  | [.tup xs] => Q (.int xs.length) S
  | [.rol xs] => Q (.int xs.length) S
  | [.ref a] => match S a with
    | some (.lst xs) => Q (.int xs.length) S
    | _ => False
  | [.str z] => z.length ≤ sizeLine ∧ Q (.int z.length) S
  | _ => False
theorem one_i {H : Hp} {vs : List V} {d : Dv} (r : RepL K H vs [d]) : ∃ v, vs = [v] ∧ Rep K H v d := by
  obtain ⟨v, t, rfl, h1, h2⟩ := r.cons_i
  exact ⟨v, by rw [h2.nil_i], h1⟩
theorem two_i {H : Hp} {vs : List V} {d e : Dv} (r : RepL K H vs [d, e]) : ∃ v u, vs = [v, u] ∧ Rep K H v d ∧ Rep K H u e := by
  obtain ⟨v, t, rfl, h1, h2⟩ := r.cons_i
  obtain ⟨u, rfl, h3⟩ := one_i h2
  exact ⟨v, u, rfl, h1, h3⟩
theorem l_len : LRC K (fun xs H Q => ∃ x n, xs = [x] ∧ LenV K x H n ∧ Q (.int n) H) rdLen := by
  intro vs H ds S Qh Q r hS h k
  unfold rdLen at h
  split at h
  · obtain ⟨v, rfl, rr⟩ := one_i r
    obtain ⟨a, us, rfl, ha, la⟩ := rr.i_tup
    exact ⟨_, _, rfl, .inr ⟨us, ha, la.length.symm⟩, k.now h (.int _) hS⟩
  · obtain ⟨v, rfl, rr⟩ := one_i r
    obtain ⟨a, us, rfl, ha, la⟩ := rr.i_rol
    exact ⟨_, _, rfl, .inl ⟨us, ha.sq, la.length.symm⟩, k.now h (.int _) hS⟩
  · rename_i a
    obtain ⟨v, rfl, rr⟩ := one_i r
    split at h
    · rename_i xs ea
      obtain ⟨us, h1, la⟩ := hS _ _ ea
      rw [rr.i_ref]
      exact ⟨_, _, rfl, .inl ⟨us, .inl (.inl h1), la.length.symm⟩, k.now h (.int _) hS⟩
    · exact h.elim
  · obtain ⟨v, rfl, rr⟩ := one_i r
    rw [rr.i_str]
    exact ⟨_, _, rfl, ⟨h.1, rfl⟩, k.now h.2 (.int _) hS⟩
  · exact h.elim
/-- a function on ints -/
def rdInt1 (f : Int → Dv) : RDC := fun ds S Q => match ds with
  | [.int i] => Q (f i) S
  | _ => False
theorem l_abs : LRC K (fun xs H Q => ∃ i, xs = [.int i] ∧ Q (.int (if i < 0 then -i else i)) H) (rdInt1 fun i => .int (if i < 0 then -i else i)) := by
  intro vs H ds S Qh Q r hS h k
  unfold rdInt1 at h
  split at h
  · obtain ⟨v, rfl, rr⟩ := one_i r
    rw [rr.i_int]
    exact ⟨_, rfl, k.now h (.int _) hS⟩
  · exact h.elim
def rdInt : RDC := fun ds S Q => match ds with
  | [.int i] => Q (.int i) S
  | [.bl b] => Q (.int (if b then 1 else 0)) S
  | _ => False
theorem l_int : LRC K (fun xs H Q => (∃ i, xs = [.int i] ∧ Q (.int i) H) ∨ ∃ k, xs = [.bl k] ∧ Q (.int (if k then 1 else 0)) H) rdInt := by
  intro vs H ds S Qh Q r hS h k
  unfold rdInt at h
  split at h
  · obtain ⟨v, rfl, rr⟩ := one_i r
    rw [rr.i_int]
    exact .inl ⟨_, rfl, k.now h (.int _) hS⟩
  · obtain ⟨v, rfl, rr⟩ := one_i r
    rw [rr.i_bl]
    exact .inr ⟨_, rfl, k.now h (.int _) hS⟩
  · exact h.elim
def rdInt2 (f : Int → Int → Dv) : RDC := fun ds S Q => match ds with
  | [.int i, .int j] => Q (f i j) S
  | _ => False
theorem l_max2 : LRC K (fun xs H Q => ∃ i j, xs = [.int i, .int j] ∧ Q (.int (if j > i then j else i)) H) (rdInt2 fun i j => .int (if j > i then j else i)) := by
  intro vs H ds S Qh Q r hS h k
  unfold rdInt2 at h
  split at h
  · obtain ⟨v, u, rfl, r1, r2⟩ := two_i r
    rw [r1.i_int, r2.i_int]
    exact ⟨_, _, rfl, k.now h (.int _) hS⟩
  · exact h.elim
theorem l_min2 : LRC K (fun xs H Q => ∃ i j, xs = [.int i, .int j] ∧ Q (.int (if j < i then j else i)) H) (rdInt2 fun i j => .int (if j < i then j else i)) := by
  intro vs H ds S Qh Q r hS h k
  unfold rdInt2 at h
  split at h
  · obtain ⟨v, u, rfl, r1, r2⟩ := two_i r
    rw [r1.i_int, r2.i_int]
    exact ⟨_, _, rfl, k.now h (.int _) hS⟩
  · exact h.elim
/-- the items of a list or a tuple, and a store in which the list may be forgotten -/
def seqOf (d : Dv) (S : Sto) (R : List Dv → Prop) : Prop := match d with
  | .tup xs => R xs
  | .rol xs => R xs
  | .ref a => match S a with
    | some (.lst xs) => R xs
    | _ => False
  | _ => False
def lstOf (d : Dv) (S : Sto) (R : List Dv → Prop) : Prop := match d with
  | .rol xs => R xs
  | .ref a => match S a with
    | some (.lst xs) => R xs
    | _ => False
  | _ => False
theorem lstOf_i {H : Hp} {S : Sto} {d : Dv} {v : V} {R : List Dv → Prop} (r : Rep K H v d) (hS : Abs K H S) (h : lstOf d S R) : ∃ a us xs, v = .ref a ∧ SqL K H a us ∧ RepL K H us xs ∧ R xs := by
  unfold lstOf at h
  split at h
  · obtain ⟨a, us, rfl, ha, la⟩ := r.i_rol
    exact ⟨a, us, _, rfl, ha.sq, la, h⟩
  · rename_i a
    split at h
    · rename_i xs ea
      obtain ⟨us, h1, la⟩ := hS _ _ ea
      exact ⟨a, us, xs, r.i_ref, .inl (.inl h1), la, h⟩
    · exact h.elim
  · exact h.elim
theorem seqOf_i {H : Hp} {S : Sto} {d : Dv} {v : V} {R : List Dv → Prop} (r : Rep K H v d) (hS : Abs K H S) (h : seqOf d S R) : ∃ a us xs, v = .ref a ∧ (SqL K H a us ∨ SqT K H a us) ∧ RepL K H us xs ∧ R xs := by
  unfold seqOf at h
  split at h
  · obtain ⟨a, us, rfl, ha, la⟩ := r.i_tup
    exact ⟨a, us, _, rfl, .inr ha, la, h⟩
  · obtain ⟨a, us, rfl, ha, la⟩ := r.i_rol
    exact ⟨a, us, _, rfl, .inl ha.sq, la, h⟩
  · rename_i a
    split at h
    · rename_i xs ea
      obtain ⟨us, h1, la⟩ := hS _ _ ea
      exact ⟨a, us, xs, r.i_ref, .inl (.inl (.inl h1)), la, h⟩
    · exact h.elim
  · exact h.elim
def rdAll : RDC := fun ds S Q => match ds with
  | [d] => lstOf d S fun xs => ∃ bs : List Bool, xs = bs.map Dv.bl ∧ ∃ S', Sub S' S ∧ Q (.bl (bs.all id)) S'
  | _ => False
theorem l_all : LRC K (rAll K) rdAll := by
  intro vs H ds S Qh Q r hS h k
  unfold rdAll at h
  split at h
  · obtain ⟨v, rfl, rr⟩ := one_i r
    obtain ⟨a, us, xs, rfl, hl, rl, bs, rfl, S', sb, q⟩ := lstOf_i rr hS h
    exact ⟨a, bs, rfl, by rw [← rl.bls]; exact hl, k.now q (.bl _) (hS.sub sb)⟩
  · exact h.elim
def rdAny : RDC := fun ds S Q => match ds with
  | [d] => lstOf d S fun xs => ∃ bs : List Bool, xs = bs.map Dv.bl ∧ ∃ S', Sub S' S ∧ Q (.bl (bs.any id)) S'
  | _ => False
theorem l_any : LRC K (rAny K) rdAny := by
  intro vs H ds S Qh Q r hS h k
  unfold rdAny at h
  split at h
  · obtain ⟨v, rfl, rr⟩ := one_i r
    obtain ⟨a, us, xs, rfl, hl, rl, bs, rfl, S', sb, q⟩ := lstOf_i rr hS h
    exact ⟨a, bs, rfl, by rw [← rl.bls]; exact hl, k.now q (.bl _) (hS.sub sb)⟩
  · exact h.elim
def rdSum : RDC := fun ds S Q => match ds with
  | [d] => lstOf d S fun xs => ∃ bs : List Int, xs = bs.map Dv.int ∧ ∃ S', Sub S' S ∧ Q (.int bs.sum) S'
  | _ => False
theorem l_sum : LRC K (rSum K) rdSum := by
  intro vs H ds S Qh Q r hS h k
  unfold rdSum at h
  split at h
  · obtain ⟨v, rfl, rr⟩ := one_i r
    obtain ⟨a, us, xs, rfl, hl, rl, bs, rfl, S', sb, q⟩ := lstOf_i rr hS h
    exact ⟨a, bs, rfl, by rw [← rl.ints]; exact hl, k.now q (.int _) (hS.sub sb)⟩
  · exact h.elim
def rdSorted : RDC := fun ds S Q => match ds with
  | [d] => lstOf d S fun xs => ∃ ns : List Int, xs = ns.map Dv.int ∧ ns.length < 64 ∧ ∃ S', Sub S' S ∧ ∀ (ns' : List Int) p, ns'.Perm ns → ns'.Pairwise (· ≤ ·) → S' p = none → Q (.ref p) (put S' p (.lst (ns'.map Dv.int)))
  | _ => False
theorem l_sorted : LRC K (rSorted K) rdSorted := by
  intro vs H ds S Qh Q r hS h k
  unfold rdSorted at h
  split at h
  · obtain ⟨v, rfl, rr⟩ := one_i r
    obtain ⟨a, us, xs, rfl, hl, rl, bs, rfl, hlen, S', sb, q⟩ := lstOf_i rr hS h
    exact ⟨a, bs, rfl, by rw [← rl.ints]; exact hl, hlen, fun ns' p h1 h2 hp => k _ _ _ _ (q ns' p h1 h2 ((hS.sub sb).free hp)) (Tk.new hp) (.ref p) ((hS.sub sb).new hp (.mlst upd_same (RepL.of_ints ns')))⟩
  · exact h.elim
def rdTuple : RDC := fun ds S Q => match ds with
  | [d] => seqOf d S fun xs => ∃ S', Sub S' S ∧ Q (.tup xs) S'
  | _ => False
theorem l_tuple : LRC K (fun xs H Q => ∃ p ys, xs = [.ref p] ∧ ((SqL K H p ys ∧ ∀ l, H l = none → Q (.ref l) (upd H l (.tup ys))) ∨ (SqT K H p ys ∧ Q (.ref p) H))) rdTuple := by
  intro vs H ds S Qh Q r hS h k
  unfold rdTuple at h
  split at h
  · obtain ⟨v, rfl, rr⟩ := one_i r
    obtain ⟨a, us, xs, rfl, hl, rl, S', sb, q⟩ := seqOf_i rr hS h
    rcases hl with hl | hl
    · exact ⟨a, us, rfl, .inl ⟨hl, fun p hp => k _ _ _ _ q (Tk.new hp) (.tup (.inl (.inl upd_same)) (rl.mono (Tk.new hp))) ((hS.sub sb).tup hp)⟩⟩
    · exact ⟨a, us, rfl, .inr ⟨hl, k.now q (.tup hl rl) (hS.sub sb)⟩⟩
  · exact h.elim
def rdList : RDC := fun ds S Q => match ds with
  | [d] => seqOf d S fun xs => ∀ p, S p = none → Q (.ref p) (put S p (.lst xs))
  | _ => False
theorem l_list : LRC K (fun xs H Q => ∃ p ys, xs = [.ref p] ∧ (SqL K H p ys ∨ SqT K H p ys) ∧ ∀ l, H l = none → Q (.ref l) (upd H l (.lst ys))) rdList := by
  intro vs H ds S Qh Q r hS h k
  unfold rdList at h
  split at h
  · obtain ⟨v, rfl, rr⟩ := one_i r
    obtain ⟨a, us, xs, rfl, hl, rl, q⟩ := seqOf_i rr hS h
    exact ⟨a, us, rfl, hl, fun p hp => k _ _ _ _ (q p (hS.free hp)) (Tk.new hp) (.ref p) (hS.new hp (.mlst upd_same (rl.mono (Tk.new hp))))⟩
  · exact h.elim
/-! isinstance, built-in types -/
def tyN (S : Sto) : Dv → Option String
  | .non => some "NoneType"
  | .bl _ => some "bool"
  | .int _ => some "int"
  | .str _ => some "str"
  | .tup _ => some "tuple"
  | .rol _ => some "list"
  | .ref a => match S a with
    | some (.lst _) => some "list"
    | some (.dK _) => some "dict"
    | _ => none
  | .ty _ => none
def tyNames : List String := ["int", "bool", "str", "tuple", "list", "dict"]
def isiB (t n : String) : Bool := t == n || (t == "bool" && n == "int")
theorem kitB_tab : ∀ t ∈ ["NoneType", "bool", "int", "str", "tuple", "list", "dict"], ∀ n ∈ tyNames, kitB t n = some (isiB t n) := by decide +kernel
theorem tyN_in {S : Sto} {d : Dv} {t : String} (h : tyN S d = some t) : t ∈ ["NoneType", "bool", "int", "str", "tuple", "list", "dict"] := by
  unfold tyN at h
  split at h <;> first
    | (cases h; done)
    | (cases h; decide)
    | (split at h <;> first | (cases h; done) | (cases h; decide))
theorem tyN_ok {H : Hp} {S : Sto} {d : Dv} {v : V} {t : String} (r : Rep K H v d) (hS : Abs K H S) (h : tyN S d = some t) : TyX K H v (.type t) := by
  unfold tyN at h
  split at h
  · cases h; rw [r.i_non]; exact .base .non
  · cases h; rw [r.i_bl]; exact .base (.bl _)
  · cases h; rw [r.i_int]; exact .base (.int _)
  · cases h; rw [r.i_str]; exact .base (.str _)
  · cases h
    obtain ⟨a, us, rfl, ha, la⟩ := r.i_tup
    rcases ha with (ha | ⟨o, ha⟩) | ⟨o, its, n, h1, h2, _⟩
    · exact .base (.tup ha)
    · exact .fTuple ha
    · exact .kTuple h1 h2
  · cases h
    obtain ⟨a, us, rfl, ha, la⟩ := r.i_rol
    rcases ha with ⟨o, ha⟩ | ⟨o, its, n, h1, h2, _⟩
    · exact .base (.frz ha)
    · exact .kList h1 h2
  · rename_i a
    split at h
    · rename_i xs ea
      cases h
      obtain ⟨us, h1, la⟩ := hS _ _ ea
      rw [r.i_ref]
      exact .base (.lst h1)
    · rename_i xs ea
      cases h
      obtain ⟨us, h1, la⟩ := hS _ _ ea
      rw [r.i_ref]
      exact .base (.dK h1)
    · cases h
  · cases h
def isiD (S : Sto) (d : Dv) (n : String) : Option Bool := match tyN S d with
  | some t => if tyNames.contains n = true then some (isiB t n) else none
  | none => none
def tysOf : List Dv → Option (List String)
  | [] => some []
  | .ty n :: r => (tysOf r).map fun ns => n :: ns
  | _ :: _ => none
def isiAny (S : Sto) (d : Dv) (cs : List Dv) : Option Bool := match tyN S d, tysOf cs with
  | some t, some ns => if ns.all tyNames.contains = true then some (ns.any fun n => isiB t n) else none
  | _, _ => none
def rdIsi : RDC := fun ds S Q => match ds with
  | [d, .ty n] => match isiD S d n with
    | some b => Q (.bl b) S
    | none => False
  | [d, .tup cs] => match isiAny S d cs with
    | some b => Q (.bl b) S
    | none => False
  | _ => False
theorem isiD_ok {S : Sto} {d : Dv} {n : String} {b : Bool} (h : isiD S d n = some b) : ∃ t, tyN S d = some t ∧ PySem.W.kitOne K (.type t) (.type n) = some b := by
  unfold isiD at h
  split at h
  · rename_i t ht
    split at h
    · rename_i hn
      refine ⟨t, ht, ?_⟩
      rw [kit_ty (kitB_tab t (tyN_in ht) n (by simpa using hn))]
      exact h
    · cases h
  · cases h
/-- isinstance(x, (S, T)) by a tuple of any make -/
def rIsiTA (K : PySem.W.Frag) : List V → Hp → VK → Prop := fun xs H Q => ∃ (x : V) (tp : Addr) (cs : List V) (t : Value) (us : List Value) (b : Bool), xs = [x, .ref tp] ∧ SqT K H tp cs ∧ Paired ClsV cs us ∧ TyX K H x t ∧ PySem.W.kitAny K t us = some b ∧ Q (.bl b) H
theorem call_isiTA : CallR X (.builtin "isinstance") (rIsiTA X.K) := by
  intro pins s σ H xs us Q I r h
  obtain ⟨x, tp, cs, t, ws, b, rfl, hT, k, ty, e, q⟩ := h
  obtain ⟨u1, u2, rfl, r1, r2⟩ := vals2 r
  cases (show u2 = Value.ref tp from r2)
  obtain ⟨P, Z, p, hx⟩ := kit_of I r1 ty
  obtain ⟨its, rv, ⟨o, h1, h2, n, h3⟩, hz⟩ := I.tuple hT
  have e3 := ClsV.all k rv
  subst e3
  obtain ⟨oc, od, dt, sl⟩ := o
  simp only at h2 h3
  subst h2 h3
  exact PySem.W.kia_tup Z I.kIn p h1 e hx fun tk => ⟨.bl b, H, I.tok tk, rfl, q⟩
theorem call_isiA : CallR X (.builtin "isinstance") (fun xs H Q => rIsi X.K xs H Q ∨ rIsiTA X.K xs H Q) := call_isi.or call_isiTA
theorem kitAny_tab {t : String} (ht : t ∈ ["NoneType", "bool", "int", "str", "tuple", "list", "dict"]) : ∀ ns : List String, ns.all tyNames.contains = true → PySem.W.kitAny K (.type t) (ns.map Value.type) = some (ns.any fun n => isiB t n)
  | [], _ => rfl
  | n :: ns, h => by
    rw [List.all_cons, Bool.and_eq_true] at h
    have e : PySem.W.kitOne K (.type t) (.type n) = some (isiB t n) := kit_ty (kitB_tab t ht n (by simpa using h.1))
    rw [List.map_cons, List.any_cons]
    refine kitAny_cons e (fun z => ?_) fun z => by rw [z]; rfl
    rw [z, Bool.false_or]
    exact kitAny_tab ht ns h.2
theorem tysOf_i {H : Hp} : ∀ {cs : List Dv} {vs : List V} {ns : List String}, RepL K H vs cs → tysOf cs = some ns → Paired ClsV vs (ns.map Value.type)
  | [], _, ns, r, h => by
    rw [r.nil_i]
    cases h
    exact .nil
  | c :: cs, _, ns, r, h => by
    obtain ⟨v, vs, rfl, r1, r2⟩ := r.cons_i
    cases c with
    | ty n =>
      rw [r1.i_ty]
      unfold tysOf at h
      rw [Option.map_eq_some_iff] at h
      obtain ⟨ms, h1, rfl⟩ := h
      exact .cons (.ty n) (tysOf_i r2 h1)
    | _ => unfold tysOf at h; cases h
theorem l_isi : LRC K (fun xs H Q => rIsi K xs H Q ∨ rIsiTA K xs H Q) rdIsi := by
  intro vs H ds S Qh Q r hS h k
  unfold rdIsi at h
  split at h
  · rename_i d n
    obtain ⟨v, u, rfl, r1, r2⟩ := two_i r
    split at h
    · rename_i b hb
      obtain ⟨t, ht, hk⟩ := isiD_ok (K := K) hb
      rw [r2.i_ty]
      exact .inl ⟨v, .ty n, _, _, b, rfl, .ty n, tyN_ok r1 hS ht, hk, k.now h (.bl _) hS⟩
    · exact h.elim
  · rename_i d cs
    obtain ⟨v, u, rfl, r1, r2⟩ := two_i r
    split at h
    · rename_i b hb
      obtain ⟨a, us, rfl, ha, la⟩ := r2.i_tup
      unfold isiAny at hb
      split at hb
      · rename_i t ns ht hn
        split at hb
        · rename_i hall
          cases hb
          exact .inr ⟨v, a, us, _, _, _, rfl, ha, tysOf_i la hn, tyN_ok r1 hS ht, kitAny_tab (tyN_in ht) ns hall, k.now h (.bl _) hS⟩
        · cases hb
      · cases hb
    · exact h.elim
  · exact h.elim
end
end VD

namespace VD
open PySem PySem.Spec PyProof.Rows L2

/-! ### a def keeps its promise -/
def startN (n : Nat) (ds : List Dv) : Rho := ds.map some ++ List.replicate (n - ds.length) none
/-- the reading of a def with so many names follows from its promise -/
def Rd (t : DS) (n : Nat) (sp : SpD) : Prop := ∀ ds S Q Xh, sp ds S Q Xh → t { nx := fun _ S' => Q .non S', rt := Q, ex := fun c da _ S' => Xh c da S' } (startN n ds) S
abbrev WF (E : XK) : WX := fun cls d _ H => E cls d H
section
variable {P : Program} {w : World} {K : PySem.W.Frag} {mg : Str → Option Value} {base : Heap}
theorem okD {x qual : Str} {st : Stmt} {f : Addr} {fd : FuncData} {N ps : List Str} {k : Nat} {sp : SpD} (F : Fun K x qual st f fd) (Sc : FnScope N ps (defScope st)) (len : ∀ ds S Q X, sp ds S Q X → ds.length = ps.length)
    (t : DS) (hb : ∀ (cdv : Value) (A : Around) (outer : List Env) (s : Shared) (H : Hp) (E : XK), Room k (A.deeper (envOfC qual (defScope st) s.heap.objs.size f cdv)) →
      PSs (cxOf (L2.CX P w) P w K mg base N qual (defScope st) f cdv A outer s H E) (defBody st) (lowS K (WF E) t))
    (hr : Rd t N.length sp) : FnD P w K mg base (k + 1) f fd ps sp := by
  refine Fun.okX F Sc (fun vs H Q E ⟨ds, S, Qh, Xh, r, a, h, _⟩ => by rw [r.length]; exact len _ _ _ _ h) fun cdv A outer s H vs Q E hr' ⟨ds, S, Qh, Xh, r, a, h, k1, k2⟩ => ?_
  refine ⟨_, hb cdv A outer s H E hr', startD N ds, S, _, RepS.start r, a, hr ds S Qh Xh h, ⟨fun ρ' S' σ' H' q t _ a => k1 .non S' .non H' q t .non a, k1, fun _ _ _ _ (q : False) => False.elim q, fun _ _ _ _ (q : False) => False.elim q, fun c da ρ' S' σ' H' q t _ a => k2 c da S' H' q t a⟩⟩
end

theorem tkF {P : Program} {w : World} {K : PySem.W.Frag} {mg : Str → Option Value} {base : Heap} {N : List Str} {qual : Str} {scope : Scope} {f : Addr} {cd : Value} {A : Around} {outer : List Env} {s : Shared} {H : Hp} {E : XK} :
    Takes (cxOf (L2.CX P w) P w K mg base N qual scope f cd A outer s H E) (WF E) := takes_of rfl rfl rfl rfl
theorem d_ty {X : Cx} {W : WX} {x : Str} {n : String} {pos : Pos} (hm : X.mg x = none) (hv : bootBuiltins x = some (.type n)) (hg : Gl X x := by rfl) (hn : x ≠ "__name__" := by decide) (hd : (x == ("__debug__" : Str)) = false := by decide) :
    PE X (.Name x pos) (low X.K W (dC (.ty n))) := d_bltn (v := .ty n) hm hv rfl (fun _ => .ty n) hg hn hd
/-! ### written values -/
section
variable {K : PySem.W.Frag}
theorem v_int {i : Int} {t : Tok} : VRep K (.int i t) (.int i) := .mk (v := .int i) ⟨t, rfl⟩ fun _ => .int i
theorem v_str {i : Str} {t : Tok} : VRep K (.str i t) (.str i) := .mk (v := .str i) ⟨t, rfl⟩ fun _ => .str i
theorem v_bl {i : Bool} : VRep K (.bool i) (.bl i) := .mk (v := .bl i) rfl fun _ => .bl i
theorem v_non : VRep K .none .non := .mk (v := .non) rfl fun _ => .non
theorem v_ty {n : String} : VRep K (.type n) (.ty n) := .mk (v := .ty n) rfl fun _ => .ty n
theorem v_ref {a : Addr} : VRep K (.ref a) (.ref a) := .mk (v := .ref a) rfl fun _ => .ref a
inductive VReps (K : PySem.W.Frag) : List Value → List Dv → Prop
  | nil : VReps K [] []
  | cons {u : Value} {us : List Value} {d : Dv} {ds : List Dv} : VRep K u d → VReps K us ds → VReps K (u :: us) (d :: ds)
theorem VReps.rep : ∀ {us : List Value} {ds : List Dv}, VReps K us ds → ∃ vs, Vals vs us ∧ ∀ H, RepL K H vs ds
  | _, _, .nil => ⟨[], .nil, fun _ => .nil⟩
  | _, _, .cons (.mk r h) t => by
    obtain ⟨vs, h1, h2⟩ := VReps.rep t
    exact ⟨_ :: vs, .cons r h1, fun H => .cons (h H) (h2 H)⟩
theorem v_tup {a : Addr} {us : List Value} {ds : List Dv} {dd : Option Addr} {n : Nat} {sl : Array (Option Value)} (l : K.lookup a = some ⟨.type "tuple", dd, .seq us.toArray n, sl⟩) (r : VReps K us ds) (hz : us.length ≤ sizeLine := by first | decide | (simp only [List.length_cons, List.length_nil]; decide)) : VRep K (.ref a) (.tup ds) := by
  obtain ⟨vs, h1, h2⟩ := r.rep
  exact .mk (v := .ref a) rfl fun H => .tup (.inr ⟨_, us.toArray, n, l, rfl, rfl, by simpa using hz, by simpa using h1⟩) (h2 H)
end

theorem bt_int : bootBuiltins "int" = some (.type "int") := by decide +kernel
theorem bt_bool : bootBuiltins "bool" = some (.type "bool") := by decide +kernel
theorem bt_str : bootBuiltins "str" = some (.type "str") := by decide +kernel
theorem bt_tuple : bootBuiltins "tuple" = some (.type "tuple") := by decide +kernel
theorem bt_list : bootBuiltins "list" = some (.type "list") := by decide +kernel
theorem bt_dict : bootBuiltins "dict" = some (.type "dict") := by decide +kernel
theorem bt_range : bootBuiltins "range" = some (.type "range") := by decide +kernel
theorem bt_set : bootBuiltins "set" = some (.type "set") := by decide +kernel
theorem bt_enumerate : bootBuiltins "enumerate" = some (.type "enumerate") := by decide +kernel
theorem bt_zip : bootBuiltins "zip" = some (.type "zip") := by decide +kernel
theorem bt_reversed : bootBuiltins "reversed" = some (.type "reversed") := by decide +kernel
theorem bt_len : bootBuiltins "len" = some (.builtin "len") := by decide +kernel
theorem bt_isinstance : bootBuiltins "isinstance" = some (.builtin "isinstance") := by decide +kernel
theorem bt_all : bootBuiltins "all" = some (.builtin "all") := by decide +kernel
theorem bt_any : bootBuiltins "any" = some (.builtin "any") := by decide +kernel
theorem bt_abs : bootBuiltins "abs" = some (.builtin "abs") := by decide +kernel
theorem bt_min : bootBuiltins "min" = some (.builtin "min") := by decide +kernel
theorem bt_max : bootBuiltins "max" = some (.builtin "max") := by decide +kernel
theorem bt_sum : bootBuiltins "sum" = some (.builtin "sum") := by decide +kernel
theorem bt_sorted : bootBuiltins "sorted" = some (.builtin "sorted") := by decide +kernel
theorem bt_repr : bootBuiltins "repr" = some (.builtin "repr") := by decide +kernel
theorem bt_ord : bootBuiltins "ord" = some (.builtin "ord") := by decide +kernel
theorem bt_chr : bootBuiltins "chr" = some (.builtin "chr") := by decide +kernel
/-! ### an own exception without fields -/
section
variable {X : Cx} {C : Addr} {bmB : List Value} {B newId initId : String}
theorem pmk_own0 {x : Str} {p pos : Pos} (F : ExcBaseFacts B newId initId bmB) (q : PySem.W.excIn X.K C bmB newId = true) (gC : X.mg x = some (.ref C)) (kC : PySem.W.keepIn X.K (.ref C) = true) (r : Raises X (.ref C)) (hg : Gl X x)
    (hdb : (x == ("__debug__" : Str)) = false := by decide) : PMk X (.Call (.Name x p) [] [] pos) (fun _ H Q => Q (.ref C) none H) := by
  intro pins s σ H Q I h
  refine wpAny_Call_Name_kw (ld_glob I hg gC ?_ hdb)
  refine PySem.W.callWith_K0 I.kIn kC ?_
  show wpAny _ _ (call (.ref C) []) _ _ _
  obtain ⟨bm, N, nm, qn, bs, hdct, sn, sub, ab, col, dd, k0, k1, k2, k3, k5, mN, hC, hN, hni, T⟩ := exc_obj I.kIn q
  refine wpAny_call_exc_subT F T hC hN hni (fun h' e hm => ?_) (by show 0 ≤ sizeLine; exact Nat.zero_le _)
  exact mk_of I hm r h (I.hok.gone hm.new)
/-- what the written part says of such a class -/
structure Exc0 (K : PySem.W.Frag) (C : Addr) : Prop where
  q : PySem.W.excIn K C [.type "ValueError", .type "Exception", .type "BaseException", .type "object"] "ValueError.__new__" = true
  kp : PySem.W.keepIn K (.ref C) = true
  sb : PySem.W.subIn K (.ref C) (.type "BaseException") = some true
  ty : PySem.W.typeIn K (.ref C) = some (.type "type")
def dRaise (cls : Value) : DS := fun D ρ S => D.ex cls none ρ S
theorem s_raise0 {W : WX} {x : Str} {p pos' pos : Pos} (hc : X.calm = true) (tk : Takes X W) (T : Exc0 X.K C) (gC : X.mg x = some (.ref C)) (hg : Gl X x := by rfl) (hdb : (x == ("__debug__" : Str)) = false := by decide) :
    PS X (.Raise (some (.Call (.Name x p) [] [] pos')) none pos) (lowS X.K W (dRaise (.ref C))) := psi (ps_raise hc tk (pmk_own0 PySem.F.excBase_ValueError T.q gC T.kp (raises_own T.sb T.ty) hg hdb)) fun D σ H ⟨ρ, S, Dh, hσ, hS, h, k⟩ => k.ex _ _ ρ S σ H h (Tk.refl H) hσ hS
end

/-! ### methods of lists -/
abbrev RDM := Dv → List Dv → Sto → QD → Prop
def LRM (K : PySem.W.Frag) (r : V → List V → Hp → VK → Prop) (rd : RDM) : Prop := ∀ x vs H d ds S Qh Q, Rep K H x d → RepL K H vs ds → Abs K H S → rd d ds S Qh → Lk K H Qh Q → r x vs H Q
def isLst (d : Dv) (S : Sto) : Prop := match d with
  | .ref a => match S a with
    | some (.lst _) => True
    | _ => False
  | _ => False
def dBM (rd : RDM) (do_ : DE) (das : DA) : DE := fun ρ S Q X => do_ ρ S (fun x S1 => isLst x S1 ∧ das ρ S1 (fun ds S2 => rd x ds S2 Q) X) X
section
variable {K : PySem.W.Frag} {X : Cx} {W : WX} {o e : Expr} {es : List Expr} {do_ : DE} {das : DA}
theorem isLst_ty {H : Hp} {S : Sto} {d : Dv} {v : V} (r : Rep K H v d) (hS : Abs K H S) (h : isLst d S) : tyV K "list" v H := by
  unfold isLst at h
  split at h
  · rename_i a
    split at h
    · rename_i xs ea
      obtain ⟨us, h1, l⟩ := hS _ _ ea
      rw [r.i_ref]
      exact .inl ⟨rfl, us, .inl (.inl h1)⟩
    · exact h.elim
  · exact h.elim
theorem low_bm {r : V → List V → Hp → VK → Prop} {rd : RDM} (hl : LRM X.K r rd) : ∀ σ H Q, low X.K W (dBM rd do_ das) σ H Q → tBM X.K "list" r (low X.K W do_) (lowA X.K W das) σ H Q := fun σ H Q ⟨ρ, S, Qh, Xh, hσ, hS, h, k, x⟩ =>
  ⟨ρ, S, _, Xh, hσ, hS, h, fun d S1 v H1 q t rr a => ⟨isLst_ty rr a q.1, ρ, S1, _, Xh, hσ.mono t, a, q.2, fun ds S2 vs H2 q2 t2 r2 a2 => hl v vs H2 d ds S2 Qh Q (rr.mono t2) r2 a2 q2 (k.mono (t.trans t2)), x.mono t⟩, x⟩
def rdAppend : RDM := fun x ds S Q => match x, ds with
  | .ref a, [y] => match S a with
    | some (.lst xs) => xs.length < sizeLine ∧ Q .non (put S a (.lst (xs ++ [y])))
    | _ => False
  | _, _ => False
theorem l_append : LRM K rAppend rdAppend := by
  intro x vs H d ds S Qh Q rx r hS h k
  unfold rdAppend at h
  split at h
  · rename_i a y
    obtain ⟨v, rfl, r1⟩ := one_i r
    split at h
    · rename_i xs ea
      obtain ⟨us, h1, l⟩ := hS _ _ ea
      have tw : Tk K H (upd H a (.lst (us ++ [v]))) := Tk.write h1 wr_lst
      exact ⟨a, us, v, rx.i_ref, rfl, h1, by rw [l.length]; exact h.1, k _ _ _ _ h.2 tw .non (hS.write h1 wr_lst (.mlst upd_same ((l.mono tw).append (.cons (r1.mono tw) .nil))))⟩
    · exact h.elim
  · exact h.elim
end
theorem d_bm {X : Cx} {W : WX} {o e : Expr} {es : List Expr} {do_ : DE} {das : DA} {apos cpos : Pos} {name : Str} {id : String} {r : V → List V → Hp → VK → Prop} {rd : RDM} (slot : Slot "list" name id) (hty : typeOf (.builtin id) = pure (.type "method_descriptor")) (hm : MtR X id r) (hl : LRM X.K r rd)
    (ho : PE X o (low X.K W do_)) (ha : PA X (e :: es) (lowA X.K W das)) (hbase : attributeBase o name X.env (eval o X.env) = eval o X.env := by rfl)
    (hfew : ((backTo cpos (starEach (e :: es) X.env)).all (fun x => !x.1) && (backToKw cpos (keywordEach [] X.env)).all (fun x => x.1.isSome)
      && decide ((e :: es).length + ([] : List Keyword).length + (if ([] : List Keyword).isEmpty then 0 else 1) < 30)) = true := by rfl)
    (hline : (apos.endLine == cpos.line) = true := by rfl) (hs : starEach (e :: es) X.env = (false, eval e X.env) :: starEach es X.env := by rfl) (hplain : (backTo cpos (starEach es X.env)).any (·.1) = false := by rfl) :
    PE X (.Call (.Attribute o name apos) (e :: es) [] cpos) (low X.K W (dBM rd do_ das)) := pei (pe_bm PySem.F.plainAttrs_list slot hty hm ho ha hbase hfew hline hs hplain) (low_bm hl)

/-! ### the end of a law -/
theorem only_cl {K : PySem.W.Frag} {H : Hp} {a : Addr} {ns : List Int} (hO : Only H) (h : SqL K H a (ns.map V.int)) : CL K H a (ns.map V.int) := by
  rcases h with (h | h) | h
  · rcases hO a with e | ⟨o, xs, e⟩
    · rw [h] at e; cases e
    · rw [h] at e; cases e
  · exact .inl h
  · exact .inr h
/-- a law's promise -/
def spLaw : SpD := fun ds S Q _ => ∃ ns : List Int, ds = [.rol (ns.map Dv.int)] ∧ ns.length ≤ 63 ∧ S = (fun _ => none) ∧ ∀ S', Q (.bl true) S'
theorem law_in {K : PySem.W.Frag} {H : Hp} {a : Addr} {ns : List Int} (hl : ns.length ≤ 63) (hO : Only H) (h : SqL K H a (ns.map V.int)) : lowF K spLaw [.ref a] H (fun v _ => v = .bl true) fun _ _ _ => False := by
  refine ⟨[.rol (ns.map Dv.int)], fun _ => none, fun d _ => d = .bl true, X0, .cons (.rol (only_cl hO h) (.of_ints ns)) .nil, ?_, ⟨ns, rfl, hl, rfl, fun _ => rfl⟩, ?_, ?_⟩
  · intro a m e
    cases e
  · intro d S' v H' q t r a
    have q' : d = .bl true := q
    subst q'
    exact r.i_bl
  · intro c da S' H' q
    exact False.elim q
theorem law_out {P : Program} {w : World} (H : Hp) (s : Shared) (e : Value) (s' : Shared) (h : L2.CX P w [] H s (fun _ _ _ => False) e s') : False := by
  obtain ⟨_, _, _, _, _, _, _, _, _, _, _, _, z⟩ := h
  exact z
end VD

namespace VD
open PySem PySem.Spec PyProof.Rows L2

/-- a store without the object at p -/
def rm (S : Sto) (p : Addr) : Sto := fun b => if b = p then none else S b
theorem rm_same {S : Sto} {p : Addr} : rm S p p = none := if_pos rfl
theorem rm_ne {S : Sto} {p b : Addr} (h : b ≠ p) : rm S p b = S b := if_neg h
theorem rm_sub (S : Sto) (p : Addr) : Sub (rm S p) S := fun a m e => by
  unfold rm at e
  split at e
  · cases e
  · exact e
theorem rm_put {S : Sto} {p : Addr} {m : MO} (h : S p = none) : rm (put S p m) p = S := by
  funext b
  unfold rm put
  split
  · rename_i e; rw [e, h]
  · rfl
/-- a comprehension whose element is a function of the item and leaves the store -/
theorem lc_pure {g : DG} {te : DE} {vs : List Nat} {ρ : Rho} {Q : QD} {items : List Dv} {stay : Sto → Prop} {S : Sto} (f : Dv → Dv) (hl : items.length ≤ sizeLine) (hst : ∀ p m, S p = none → stay (put S p m))
    (he : ∀ x ∈ items, ∀ (T : Sto) (K : QD), Sub S T → K (f x) T → g x (wipeD ρ vs) T fun ρ2 S2 => te ρ2 S2 K X0) (hQ : ∀ p, S p = none → Q (.ref p) (put S p (.lst (items.map f)))) : LcGo g dYes te vs ρ Q items stay S := by
  intro p hp
  refine ⟨fun i T => T = put S p (.lst ((items.take i).map f)), rfl, fun i T _ h => by rw [h]; exact hst p _ hp, fun i x T hx h => ?_, fun T h => ?_⟩
  · subst h
    refine he x (List.mem_of_getElem? hx) _ _ (Sub.new hp) ?_
    refine ⟨(items.take i).map f, put_same, ?_, ?_⟩
    · rw [List.length_map, List.length_take]
      have := (List.getElem?_eq_some_iff.mp hx).1
      omega
    · show put _ _ _ = put _ _ _
      rw [put_put, List.take_add_one, hx, List.map_append]
      rfl
  · rw [show T = _ from h, List.take_length]
    exact hQ p hp
/-- .. with one test -/
theorem lc_filter {g : DG} {tt : DT} {te : DE} {vs : List Nat} {ρ : Rho} {Q : QD} {items : List Dv} {stay : Sto → Prop} {S : Sto} (c : Dv → Bool) (f : Dv → Dv) (hl : items.length ≤ sizeLine) (hst : ∀ p m, S p = none → stay (put S p m))
    (he : ∀ x ∈ items, ∀ (T : Sto) (K : QD) (N : Sto → Prop), Sub S T → (c x = true → K (f x) T) → (c x = false → N T) → g x (wipeD ρ vs) T fun ρ2 S2 => tt ρ2 S2 (fun b S3 => if b = true then te ρ2 S3 K X0 else N S3) X0) (hQ : ∀ p, S p = none → Q (.ref p) (put S p (.lst ((items.filter c).map f)))) : LcGo g tt te vs ρ Q items stay S := by
  intro p hp
  refine ⟨fun i T => T = put S p (.lst (((items.take i).filter c).map f)), rfl, fun i T _ h => by rw [h]; exact hst p _ hp, fun i x T hx h => ?_, fun T h => ?_⟩
  · subst h
    refine he x (List.mem_of_getElem? hx) _ _ _ (Sub.new hp) (fun hc => ?_) (fun hc => ?_)
    · refine ⟨((items.take i).filter c).map f, put_same, ?_, ?_⟩
      · rw [List.length_map]
        have h1 := (List.getElem?_eq_some_iff.mp hx).1
        have h2 := List.length_filter_le c (items.take i)
        rw [List.length_take] at h2
        omega
      · show put _ _ _ = put _ _ _
        rw [put_put, List.take_add_one, hx]
        simp [List.filter_append, hc]
    · show put _ _ _ = put _ _ _
      rw [List.take_add_one, hx]
      simp [List.filter_append, hc]
  · rw [show T = _ from h, List.take_length]
    exact hQ p hp
/-- a sequence by what holds between the two -/
theorem cut_seq {a b : DS} {D : DEnds} {ρ : Rho} {S : Sto} (M : Rho → Sto → Prop) (h1 : ∀ N : Rho → Sto → Prop, (∀ ρ S, M ρ S → N ρ S) → a { D with nx := N } ρ S) (h2 : ∀ ρ S, M ρ S → b D ρ S) : dSeq a b D ρ S := h1 _ h2
/-- a loop over names and a store by an invariant -/
theorem for_go {g : DG} {tb : DS} {D : DEnds} {ρ : Rho} {items : List Dv} {stay : Sto → Prop} {S : Sto} (Wv : Nat → Rho → Sto → Prop) (h0 : Wv 0 ρ S) (hst : ∀ i ρ S, i ≤ items.length → Wv i ρ S → stay S)
    (hs : ∀ i x ρ S, items[i]? = some x → Wv i ρ S → g x ρ S fun ρ2 S2 => tb { D with nx := Wv (i + 1), ct := Wv (i + 1), bk := D.nx } ρ2 S2) (hd : ∀ ρ S, Wv items.length ρ S → D.nx ρ S) : ForGo g tb D ρ items stay S := ⟨Wv, h0, hst, hs, hd⟩
theorem atI_lt {α : Type} {xs : List α} {i : Int} (h0 : 0 ≤ i) (h : i < xs.length) : atI xs i = xs[i.toNat]? := by
  unfold atI ixN
  rw [if_pos h0, if_pos h]
  rfl
theorem atI_cons0 {α : Type} (x : α) (xs : List α) : atI (x :: xs) 0 = some x := by
  rw [atI_lt (Int.le_refl 0) (by simp)]; rfl
theorem ixN_lt {n : Nat} {i : Int} (h0 : 0 ≤ i) (h : i < n) : ixN n i = some i.toNat := by
  unfold ixN
  rw [if_pos h0, if_pos h]
theorem atI_nn {α : Type} {xs : List α} {i : Int} (h0 : 0 ≤ i) : atI xs i = xs[i.toNat]? := by
  unfold atI ixN
  rw [if_pos h0]
  by_cases h : i < xs.length
  · rw [if_pos h]; rfl
  · rw [if_neg h, List.getElem?_eq_none (by omega)]; rfl
theorem atI_0 {α : Type} {xs : List α} : atI xs 0 = xs[0]? := atI_nn (by decide)
theorem atI_1 {α : Type} {xs : List α} : atI xs 1 = xs[1]? := atI_nn (by decide)
theorem atI_2 {α : Type} {xs : List α} : atI xs 2 = xs[2]? := atI_nn (by decide)
theorem atI_3 {α : Type} {xs : List α} : atI xs 3 = xs[3]? := atI_nn (by decide)
theorem atI_4 {α : Type} {xs : List α} : atI xs 4 = xs[4]? := atI_nn (by decide)
theorem atI_5 {α : Type} {xs : List α} : atI xs 5 = xs[5]? := atI_nn (by decide)
theorem atI_6 {α : Type} {xs : List α} : atI xs 6 = xs[6]? := atI_nn (by decide)
theorem atI_7 {α : Type} {xs : List α} : atI xs 7 = xs[7]? := atI_nn (by decide)
theorem ixN_30 : ixN 3 0 = some 0 := rfl
theorem ixN_31 : ixN 3 1 = some 1 := rfl
theorem ixN_32 : ixN 3 2 = some 2 := rfl
theorem ixN_50 : ixN 5 0 = some 0 := rfl
theorem ixN_51 : ixN 5 1 = some 1 := rfl
theorem ixN_52 : ixN 5 2 = some 2 := rfl
theorem ixN_53 : ixN 5 3 = some 3 := rfl
theorem ixN_54 : ixN 5 4 = some 4 := rfl
theorem cut_take {α : Type} {xs : List α} {k : Int} (h : 0 ≤ k) : cutD xs none (some k) = xs.take k.toNat := by
  unfold cutD
  obtain ⟨n, rfl⟩ := Int.eq_ofNat_of_zero_le h
  show (xs.drop (HT.sIx xs.length 0 none)).take (HT.sIx xs.length xs.length (some (n : Int)) - HT.sIx xs.length 0 none) = _
  rw [HT.sIx_none, HT.sIx_nat, List.drop_zero, Nat.sub_zero]
  simp
theorem cut_drop {α : Type} {xs : List α} {k : Int} (h : 0 ≤ k) : cutD xs (some k) none = xs.drop k.toNat := by
  unfold cutD
  obtain ⟨n, rfl⟩ := Int.eq_ofNat_of_zero_le h
  show (xs.drop (HT.sIx xs.length 0 (some (n : Int)))).take (HT.sIx xs.length xs.length none - HT.sIx xs.length 0 (some (n : Int))) = _
  rw [HT.sIx_none, HT.sIx_nat]
  by_cases hn : n ≤ xs.length
  · rw [Nat.min_eq_left hn, show (Int.toNat (n : Int)) = n from rfl, List.take_of_length_le (by simp)]
  · rw [Nat.min_eq_right (by omega), List.drop_eq_nil_of_le (Nat.le_refl _), List.drop_eq_nil_of_le (by simp; omega)]
    simp
theorem cut_neg {α : Type} {xs : List α} {k : Nat} : cutD xs none (some (-((k : Int) + 1))) = xs.take (xs.length - (k + 1)) := by
  unfold cutD
  have e : HT.sIx xs.length xs.length (some (-((k : Int) + 1))) = xs.length - (k + 1) := by
    show (if (-((k : Int) + 1)) < 0 then (-((k : Int) + 1) + (xs.length : Int)).toNat else min (-((k : Int) + 1)).toNat xs.length) = _
    rw [if_pos (by omega)]
    omega
  rw [HT.sIx_none, e, List.drop_zero, Nat.sub_zero]
/-! equal tuples of ints -/
theorem isDL_ints : ∀ ns : List Int, isDL (ns.map Dv.int) = true
  | [] => rfl
  | n :: ns => by rw [List.map_cons]; simp [isDL, isD, isDL_ints ns]
theorem canLay_ints : ∀ ns : List Int, PyData.canLayAll0 (pyL (ns.map Dv.int)) = true
  | [] => rfl
  | n :: ns => by rw [List.map_cons]; simp [pyL, py, PyData.canLayAll0, PyData.canLay0, canLay_ints ns]
theorem depth_ints : ∀ ns : List Int, PyData.depthAll (pyL (ns.map Dv.int)) ≤ 1
  | [] => by simp [pyL, PyData.depthAll]
  | n :: ns => by
    have := depth_ints ns
    rw [List.map_cons]
    simp [pyL, py, PyData.depthAll, PyData.depth]
    omega
theorem shp_ints (ns : List Int) : shp (.tup (ns.map Dv.int)) = true := by
  unfold shp SeqAt.shaped
  have h := depth_ints ns
  simp [isD, py, isDL_ints, PyData.canLay0, canLay_ints, PyData.depth]
  omega
theorem shp_non : shp .non = true := by decide
theorem eqvL_ints : ∀ xs ys : List Int, eqvL (xs.map Dv.int) (ys.map Dv.int) = decide (xs = ys)
  | [], [] => rfl
  | [], _ :: _ => rfl
  | _ :: _, [] => rfl
  | x :: xs, y :: ys => by
    have := eqvL_ints xs ys
    unfold eqvL at this ⊢
    rw [List.map_cons, List.map_cons]
    simp only [pyL, py, PyData.eqvAll, PyData.eqv, this]
    rw [Bool.eq_iff_iff]
    simp
end VD

namespace VD
open PySem PySem.Spec PyProof.Rows L2
/-- a promise that nobody can ask for -/
theorem fn_never {P : Program} {w : World} {K : PySem.W.Frag} {mg : Str → Option Value} {base : Heap} {k : Nat} {f : Addr} {fd : FuncData} {ps : List Str} {sp : SpD} (h : ∀ ds S Q X, sp ds S Q X → False) : FnD P w K mg base k f fd ps sp :=
  ⟨fun vs H Q E ⟨ds, S, Qh, Xh, _, _, z, _⟩ => (h _ _ _ _ z).elim, fun A outer s H args us vs Q E _ _ _ _ ⟨ds, S, Qh, Xh, _, _, z, _⟩ => (h _ _ _ _ z).elim⟩
/-! ### zip, enumerate -/
def pairs (xs ys : List Dv) : List Dv := List.zipWith (fun x y => .tup [x, y]) xs ys
theorem pairs_get {xs ys : List Dv} {i : Nat} {z : Dv} (h : (pairs xs ys)[i]? = some z) : ∃ x y, xs[i]? = some x ∧ ys[i]? = some y ∧ z = .tup [x, y] := by
  unfold pairs at h
  rw [List.getElem?_zipWith] at h
  split at h
  · rename_i x y h1 h2
    cases h
    exact ⟨x, y, h1, h2, rfl⟩
  · cases h
theorem pairs_len {xs ys : List Dv} : (pairs xs ys).length = min xs.length ys.length := by unfold pairs; simp
/-- this list is still there -/
def isL (d : Dv) (S : Sto) (xs : List Dv) : Prop := lstOf d S fun zs => zs = xs
section
variable {K : PySem.W.Frag} {H0 : Hp} {a b : Addr} {us vs : List V} {xs ys : List Dv}
theorem rep2 {H : Hp} {T : Addr} {x y : V} {dx dy : Dv} (hT : H T = none) (rx : Rep K H x dx) (ry : Rep K H y dy) : Rep K (upd H T (.tup [x, y])) (.ref T) (.tup [dx, dy]) :=
  .tup (.inl (.inl upd_same)) (.cons (rx.mono (Tk.new hT)) (.cons (ry.mono (Tk.new hT)) .nil))
theorem it_zipT (h1 : SqT K H0 a us) (l1 : RepL K H0 us xs) (h2 : SqT K H0 b vs) (l2 : RepL K H0 vs ys) : ItD K H0 (RZ.ItzT K a b) (pairs xs ys) (fun _ => True) := by
  refine ⟨fun i H S z t ha _ hz => ?_, fun H S t ha _ => ⟨us, vs, t.t _ _ h1, t.t _ _ h2, ?_⟩⟩
  · obtain ⟨x, y, ex, ey, rfl⟩ := pairs_get hz
    obtain ⟨v, ev, rv⟩ := l1.get ex
    obtain ⟨u, eu, ru⟩ := l2.get ey
    refine ⟨⟨us, vs, v, u, t.t _ _ h1, t.t _ _ h2, ev, eu⟩, fun q H' ⟨T, x', y', e1, e2, e3, e4, e5⟩ => ?_⟩
    subst e1 e3
    have g1 := e4 us (t.t _ _ h1)
    have g2 := e5 vs (t.t _ _ h2)
    rw [ev] at g1; rw [eu] at g2
    cases g1; cases g2
    exact ⟨Tk.new e2, rep2 e2 (rv.mono t) (ru.mono t), ha.tup e2⟩
  · rw [pairs_len, ← l1.length, ← l2.length]
    omega
/-- a list read by its data -/
theorem lst_at {H : Hp} {S : Sto} {v : V} {d : Dv} {ds : List Dv} (r : Rep K H0 v d) (t : Tk K H0 H) (ha : Abs K H S) (s : isL d S ds) : ∃ p ws, v = .ref p ∧ SqL K H p ws ∧ RepL K H ws ds := by
  obtain ⟨p, ws, zs, e, hl, rl, rfl⟩ := lstOf_i (r.mono t) ha s
  exact ⟨p, ws, e, hl, rl⟩
theorem it_zipL {dx dy : Dv} (r1 : Rep K H0 (.ref a) dx) (r2 : Rep K H0 (.ref b) dy) : ItD K H0 (Itz K a b) (pairs xs ys) (fun S => isL dx S xs ∧ isL dy S ys) := by
  refine ⟨fun i H S z t ha st hz => ?_, fun H S t ha st => ?_⟩
  · obtain ⟨x, y, ex, ey, rfl⟩ := pairs_get hz
    obtain ⟨p, ws, e1, hl1, l1⟩ := lst_at r1 t ha st.1
    obtain ⟨p', ws', e1', hl2, l2⟩ := lst_at r2 t ha st.2
    cases e1; cases e1'
    obtain ⟨v, ev, rv⟩ := l1.get ex
    obtain ⟨u, eu, ru⟩ := l2.get ey
    refine ⟨⟨ws, ws', v, u, hl1, hl2, ev, eu⟩, fun q H' ⟨T, x', y', e1, e2, e3, e4, e5⟩ => ?_⟩
    subst e1 e3
    have g1 := e4 ws hl1
    have g2 := e5 ws' hl2
    rw [ev] at g1; rw [eu] at g2
    cases g1; cases g2
    exact ⟨Tk.new e2, rep2 e2 rv ru, ha.tup e2⟩
  · obtain ⟨p, ws, e1, hl1, l1⟩ := lst_at r1 t ha st.1
    obtain ⟨p', ws', e1', hl2, l2⟩ := lst_at r2 t ha st.2
    cases e1; cases e1'
    refine ⟨ws, ws', hl1, hl2, ?_⟩
    rw [pairs_len, ← l1.length, ← l2.length]
    omega
/-- the pairs of a count and an item -/
def counted (xs : List Dv) : List Dv := xs.mapIdx fun i x => .tup [.int i, x]
theorem counted_get {i : Nat} {z : Dv} (h : (counted xs)[i]? = some z) : ∃ x, xs[i]? = some x ∧ z = .tup [.int i, x] := by
  unfold counted at h
  rw [List.getElem?_mapIdx, Option.map_eq_some_iff] at h
  obtain ⟨x, h1, h2⟩ := h
  exact ⟨x, h1, h2.symm⟩
theorem counted_len : (counted xs).length = xs.length := by unfold counted; simp
theorem it_enumL {dx : Dv} (r1 : Rep K H0 (.ref a) dx) : ItD K H0 (Ite K a) (counted xs) (fun S => isL dx S xs) := by
  refine ⟨fun i H S z t ha st hz => ?_, fun H S t ha st => ?_⟩
  · obtain ⟨x, ex, rfl⟩ := counted_get hz
    obtain ⟨p, ws, e1, hl1, l1⟩ := lst_at r1 t ha st
    cases e1
    obtain ⟨v, ev, rv⟩ := l1.get ex
    refine ⟨⟨ws, v, hl1, ev⟩, fun q H' ⟨T, x', e1, e2, e3, e4⟩ => ?_⟩
    subst e1 e3
    have g1 := e4 ws hl1
    rw [ev] at g1
    cases g1
    exact ⟨Tk.new e2, rep2 e2 (.int _) rv, ha.tup e2⟩
  · obtain ⟨p, ws, e1, hl1, l1⟩ := lst_at r1 t ha st
    cases e1
    refine ⟨ws, hl1, ?_⟩
    rw [counted_len, ← l1.length]
    exact Nat.le_refl _
end
section
variable {X : Cx} {W : WX} {e e2 : Expr} {das : DA} {p pos tpos : Pos} {elts : List Expr} {kk : Nat}
def iZipD (das : DA) : DI := fun ρ S R X => das ρ S (fun ds S1 => match ds with
  | [.tup xs, .tup ys] => R (pairs xs ys) (fun _ => True) S1
  | [d, e] => lstOf d S1 fun xs => lstOf e S1 fun ys => R (pairs xs ys) (fun S => isL d S xs ∧ isL e S ys) S1
  | _ => False) X
theorem lstOf_imp {d : Dv} {S : Sto} {R R' : List Dv → Prop} (h : lstOf d S R) (i : ∀ xs, isL d S xs → R xs → R' xs) : lstOf d S R' := by
  unfold isL lstOf at i
  unfold lstOf at h ⊢
  split at h
  · exact i _ rfl h
  · split at h
    · rename_i hs
      simp only [hs] at i ⊢
      exact i _ rfl h
    · exact h.elim
  · exact h.elim
theorem lstOf_ex {d : Dv} {S : Sto} {R : List Dv → Prop} (h : lstOf d S R) : ∃ xs, isL d S xs ∧ R xs := by
  unfold isL
  unfold lstOf at h ⊢
  split at h
  · exact ⟨_, rfl, h⟩
  · split at h
    · rename_i hs
      simp only [hs]
      exact ⟨_, rfl, h⟩
    · exact h.elim
  · exact h.elim
theorem i_zip (hm : X.mg "zip" = none) (ha : PA X [e, e2] (lowA X.K W das)) (hg : Gl X "zip" := by rfl) (hs : starEach [e, e2] X.env = (false, eval e X.env) :: starEach [e2] X.env := by rfl) (hpl : (backTo pos (starEach [e2] X.env)).any (·.1) = false := by rfl) :
    PI X (.Tuple elts kk tpos) (.Call (.Name "zip" p) [e, e2] [] pos) (lowI X.K W (iZipD das)) := pii (RZ.pi_zipA hg hm ha hs hpl) fun σ H R ⟨ρ, S, Rh, Xh, hσ, hS, h, k, x⟩ => by
  refine ⟨ρ, S, _, Xh, hσ, hS, h, fun ds S1 vs H1 q t r a => ?_, x⟩
  dsimp only at q
  split at q
  · rename_i xs ys
    obtain ⟨v, u, rfl, r1, r2⟩ := two_i r
    obtain ⟨c, us, rfl, hc, lc⟩ := r1.i_tup
    obtain ⟨d, ws, rfl, hd, ld⟩ := r2.i_tup
    exact ⟨c, d, us, ws, rfl, .inr ⟨hc, hd, k _ _ S1 _ H1 q t a (it_zipT hc lc hd ld)⟩⟩
  · rename_i d1 d2 _
    obtain ⟨v, u, rfl, r1, r2⟩ := two_i r
    obtain ⟨xs, s1, q⟩ := lstOf_ex q
    obtain ⟨ys, s2, q⟩ := lstOf_ex q
    obtain ⟨c, us, rfl, hc, lc⟩ := lst_at r1 (Tk.refl H1) a s1
    obtain ⟨d, ws, rfl, hd, ld⟩ := lst_at r2 (Tk.refl H1) a s2
    exact ⟨c, d, us, ws, rfl, .inl ⟨hc, hd, k _ _ S1 _ H1 q t a (it_zipL r1 r2)⟩⟩
  · exact q.elim
def iEnumD (das : DA) : DI := fun ρ S R X => das ρ S (fun ds S1 => match ds with
  | [d] => lstOf d S1 fun xs => R (counted xs) (fun S => isL d S xs) S1
  | _ => False) X
theorem i_enumL (hm : X.mg "enumerate" = none) (ha : PA X [e] (lowA X.K W das)) (hg : Gl X "enumerate" := by rfl) (hs : starEach [e] X.env = [(false, eval e X.env)] := by rfl) :
    PI X (.Tuple elts kk tpos) (.Call (.Name "enumerate" p) [e] [] pos) (lowI X.K W (iEnumD das)) := pii (pi_enum hg hm ha hs) fun σ H R ⟨ρ, S, Rh, Xh, hσ, hS, h, k, x⟩ => by
  refine ⟨ρ, S, _, Xh, hσ, hS, h, fun ds S1 vs H1 q t r a => ?_, x⟩
  dsimp only at q
  split at q
  · obtain ⟨v, rfl, r1⟩ := one_i r
    obtain ⟨xs, s1, q⟩ := lstOf_ex q
    obtain ⟨c, us, rfl, hc, lc⟩ := lst_at r1 (Tk.refl H1) a s1
    exact ⟨c, us, rfl, hc, k _ _ S1 _ H1 q t a (it_enumL r1)⟩
  · exact q.elim
end
end VD

namespace VD
open PySem PySem.Spec PyProof.Rows L2
/-! ### try with except clauses (no names) -/
/-- which clause takes an exception: of each clause, the classes it is known to take or not -/
def wD : List (List (Value × Bool) × DS) → DEnds → Value → Option Addr → Rho → Sto → Prop
  | [], D, cls, da, ρ, S => D.ex cls da ρ S
  | (tab, s) :: r, D, cls, da, ρ, S => ∃ b, (cls, b) ∈ tab ∧ (b = true → s { D with ex := fun _ _ _ _ => False } ρ S) ∧ (b = false → wD r D cls da ρ S)
def dTry (b : DS) (l : List (List (Value × Bool) × DS)) : DS := fun D ρ S => b { D with ex := wD l D } ρ S
inductive HdsD (X : Cx) : List ExceptHandler → List (List (Value × Bool) × DS) → List (Value × (Addr → Value → Option Addr → TS)) → Prop
  | nil : HdsD X [] [] []
  | cons {x : Str} {c : Value} {s : DS} {tab : List (Value × Bool)} {b₀ : Stmt} {suite : List Stmt} {np pos' : Pos} {hds : List ExceptHandler} {l : List (List (Value × Bool) × DS)} {l' : List (Value × (Addr → Value → Option Addr → TS))}
      (hc : Names X x c) (ht : ∀ p ∈ tab, PySem.W.exmOne X.K p.1 c = some p.2) (hsu : ∀ (a : Addr) (pn : List (Addr × Obj)), PSs (X.suite a pn) (b₀ :: suite) (lowS X.K W0 s)) (r : HdsD X hds l l') :
      HdsD X (.ExceptHandler (some (.Name x np)) none (b₀ :: suite) pos' :: hds) ((tab, s) :: l) ((c, fun _ _ _ => lowS X.K W0 s) :: l')
theorem HdsD.ok {X : Cx} {hds : List ExceptHandler} {l : List (List (Value × Bool) × DS)} {l' : List (Value × (Addr → Value → Option Addr → TS))} (h : HdsD X hds l l') : HdsOk X hds l' := by
  induction h with
  | nil => exact .nil
  | cons hc ht hsu r ih => exact .cons hc (fun a oe cls d pn _ _ => hsu a _) ih
theorem HdsD.go {X : Cx} {W : WX} {H : Hp} {Dh : DEnds} {D : Ends} (k : LkS X.K W H Dh D) {hds : List ExceptHandler} {l : List (List (Value × Bool) × DS)} {l' : List (Value × (Addr → Value → Option Addr → TS))} (h : HdsD X hds l l') :
    ∀ cls da, LkG X.K H (wD l Dh cls da) (wMany X.K W D l' cls da) := by
  induction h with
  | nil => exact fun cls da => k.ex cls da
  | cons hc ht hsu r ih =>
    intro cls da ρ S σ' H' ⟨b, hb, hy, hn⟩ t rs a
    refine ⟨b, ht _ hb, fun e p hp => ⟨ρ, S, _, rs, a, hy e, ⟨k.nx.mono t, k.rt.mono t, k.bk.mono t, k.ct.mono t, fun _ _ _ _ _ _ q => q.elim⟩⟩, fun e => ih cls da ρ S σ' H' (hn e) t rs a⟩
theorem s_try {X : Cx} {W : WX} {body : List Stmt} {h₀ : ExceptHandler} {hds : List ExceptHandler} {b : DS} {l : List (List (Value × Bool) × DS)} {l' : List (Value × (Addr → Value → Option Addr → TS))} {pos : Pos} (tk : Takes X W)
    (hb : ∀ (W' : WX) (pn : List (Addr × Obj)) (xe : Value → Shared → Prop), Takes (X.tr pn xe) W' → PSs (X.tr pn xe) body (lowS X.K W' b)) (hh : HdsD X (h₀ :: hds) l l')
    (hs : X.stack = X.env :: X.outer := by rfl) (hf : X.env.frame = some X.env.locals := by rfl) : PS X (.Try body (h₀ :: hds) [] [] pos) (lowS X.K W (dTry b l)) :=
  psi (ps_try_many (tb := fun W' => lowS X.K W' b) hs hf tk (fun W' pn xe tk' _ => hb W' pn xe tk') hh.ok) fun D σ H ⟨ρ, S, Dh, hσ, hS, h, k⟩ =>
    ⟨ρ, S, { Dh with ex := wD l Dh }, hσ, hS, h, ⟨k.nx, k.rt, k.bk, k.ct, hh.go k⟩⟩
theorem nm_own {X : Cx} {x : Str} {c : Value} (h : X.mg x = some c) (hg : Gl X x := by rfl) (hd : (x == ("__debug__" : Str)) = false := by decide) : Names X x c := ⟨hg, hd, .inl h⟩
theorem tabs_nil {K : PySem.W.Frag} {c : Value} : ∀ p ∈ ([] : List (Value × Bool)), PySem.W.exmOne K p.1 c = some p.2 := fun _ h => by cases h
theorem tabs_cons {K : PySem.W.Frag} {c v : Value} {b : Bool} {tab : List (Value × Bool)} (h : PySem.W.exmOne K v c = some b) (r : ∀ p ∈ tab, PySem.W.exmOne K p.1 c = some p.2) : ∀ p ∈ (v, b) :: tab, PySem.W.exmOne K p.1 c = some p.2 := fun p hp => by
  rcases List.mem_cons.mp hp with rfl | hp
  · exact h
  · exact r p hp
theorem exm_mk {K : PySem.W.Frag} {S : Addr} {cls : Value} {b : Bool} (h1 : PySem.W.subIn K (.ref S) (.type "BaseException") = some true) (h2 : PySem.W.isClsIn K S = true) (h3 : PySem.W.typeIn K (.ref S) = some (.type "type")) (h4 : PySem.W.subIn K cls (.ref S) = some b) :
    PySem.W.exmOne K cls (.ref S) = some b := by
  have e1 : (PySem.W.subIn K (.ref S) (.type "BaseException") == some true) = true := by rw [h1] <;> rfl
  have e2 : ((PySem.W.clsIn K S).isSome && PySem.W.typeIn K (.ref S) == some (.type "type")) = true := by
    have h2' : (PySem.W.clsIn K S).isSome = true := h2
    rw [h2', h3] <;> rfl
  show (if (PySem.W.subIn K (.ref S) (.type "BaseException") == some true) = true then (if ((PySem.W.clsIn K S).isSome && PySem.W.typeIn K (.ref S) == some (.type "type")) = true then PySem.W.subIn K cls (.ref S) else none) else none) = some b
  rw [if_pos e1, if_pos e2]
  exact h4
/-! ### is True -/
def isBlV : Dv → Bool → Bool
  | .bl c, b => decide (c = b)
  | _, _ => false
def rdIsB (f : Bool → Bool) : RD2 := fun x y S Q => match y with
  | .bl b => Q (.bl (f (isBlV x b))) S
  | _ => False
section
variable {K : PySem.W.Frag} {X : Cx} {W : WX}
def vBl : V → Bool → Bool
  | .bl c, b => decide (c = b)
  | _, _ => false
def rIsBA : R2 := fun x y H Q => ∃ b, y = .bl b ∧ Q (.bl (vBl x b)) H
theorem op_isBA : OpR X (compareOp .Is) rIsBA := by
  intro pins s σ H x y v u Q I rx ry h
  obtain ⟨b, rfl, q⟩ := h
  cases (show u = Value.bool b from ry)
  cases x with
  | bl a => exact op_isBl pins s σ H (.bl a) (.bl b) _ _ Q I rx (show RelV (.bl b) (.bool b) from rfl) ⟨a, b, rfl, rfl, q⟩
  | ref a => cases rx; exact wpAny_is_other rfl (by intro z; cases z) ⟨.bl false, H, I, rfl, q⟩
  | non => cases rx; exact wpAny_is_other rfl (by intro z; cases z) ⟨.bl false, H, I, rfl, q⟩
  | int i => obtain ⟨t, rfl⟩ := rx; exact wpAny_is_other rfl (by intro z; cases z) ⟨.bl false, H, I, rfl, q⟩
  | str i => obtain ⟨t, rfl⟩ := rx; exact wpAny_is_other rfl (by intro z; cases z) ⟨.bl false, H, I, rfl, q⟩
  | byt i => obtain ⟨t, rfl⟩ := rx; exact wpAny_is_other rfl (by intro z; cases z) ⟨.bl false, H, I, rfl, q⟩
  | flt i => obtain ⟨t, rfl⟩ := rx; exact wpAny_is_other rfl (by intro z; cases z) ⟨.bl false, H, I, rfl, q⟩
  | ty n => cases rx; exact wpAny_is_other rfl (by intro z; cases z) ⟨.bl false, H, I, rfl, q⟩
theorem isBl_v {H : Hp} {x : V} {d : Dv} {b : Bool} (r : Rep K H x d) : vBl x b = isBlV d b := by
  cases r <;> rfl
theorem l_isB : LR2 K rIsBA (rdIsB fun b => b) := by
  intro x y H dx dy S Qh Q rx ry hS h k
  unfold rdIsB at h
  split at h
  · exact ⟨_, ry.i_bl, by rw [isBl_v rx]; exact k.now h (.bl _) hS⟩
  · exact h.elim
/-! ### str(i), int(z), z * i -/
def rdStrI : RDC := fun ds S Q => match ds with
  | [.int i] => i.natAbs.log2 < 1920 ∧ Q (.str (toString i)) S
  | _ => False
theorem l_strI : LRC K (fun xs H Q => ∃ i, xs = [.int i] ∧ i.natAbs.log2 < 1920 ∧ Q (.str (toString i)) H) rdStrI := by
  intro vs H ds S Qh Q r hS h k
  unfold rdStrI at h
  split at h
  · obtain ⟨v, rfl, rr⟩ := one_i r
    rw [rr.i_int]
    exact ⟨_, rfl, h.1, k.now h.2 (.str _) hS⟩
  · exact h.elim
def rdIntS : RDC := fun ds S Q => match ds with
  | [.str a] => ∃ n, PySem.intText? a = some n ∧ a.length ≤ 640 ∧ Q (.int n) S
  | _ => False
theorem l_intS : LRC K (fun xs H Q => ∃ a n, xs = [.str a] ∧ PySem.intText? a = some n ∧ a.length ≤ 640 ∧ Q (.int n) H) rdIntS := by
  intro vs H ds S Qh Q r hS h k
  unfold rdIntS at h
  split at h
  · obtain ⟨v, rfl, rr⟩ := one_i r
    rw [rr.i_str]
    obtain ⟨n, h1, h2, q⟩ := h
    exact ⟨_, n, rfl, h1, h2, k.now q (.int _) hS⟩
  · exact h.elim
def repStr (z : Str) (n : Int) : Str := ⟨(List.replicate n.toNat z.cps).foldl (· ++ ·) #[]⟩
def rdMulS : RD2 := fun x y S Q => match x, y with
  | .str z, .int n => (2 ≤ n ∧ n ≤ 1000 ∧ 0 < z.length ∧ z.length ≤ 1000) ∧ Q (.str (repStr z n)) S
  | _, _ => False
/-! ### dicts written out -/
def dDict0 : DE := fun ρ S Q _ => ∀ p, S p = none → Q (.ref p) (put S p (.dK []))
theorem d_dict0 {pos : Pos} : PE X (.Dict [] [] pos) (low X.K W dDict0) := pei pe_dnewK fun σ H Q ⟨ρ, S, Qh, Xh, hσ, hS, h, k, x⟩ p hp =>
  k _ _ _ _ (h p (hS.free hp)) (Tk.new hp) (.ref p) (hS.new hp (.mdK upd_same .nil))
/-- one pair -/
def dDict1 (dk dv : DE) : DE := fun ρ S Q X => ∀ p, S p = none → dk ρ (put S p (.dK [])) (fun x S1 => dv ρ S1 (fun y S2 => S2 p = some (.dK []) ∧ match x with
  | .str z => Q (.ref p) (put S2 p (.dK [(.inr z, y)]))
  | .int z => Q (.ref p) (put S2 p (.dK [(.inl z, y)]))
  | _ => False) X) X
theorem d_dict1 {pos : Pos} {ek ev : Expr} {dk dv : DE} (hk : PE X ek (low X.K W dk)) (hv : PE X ev (low X.K W dv)) : PE X (.Dict [some ek] [ev] pos) (low X.K W (dDict1 dk dv)) :=
  pei (pe_disp (pps_cons hk hv pps_nil) rfl rfl (by simp) (by simp)) fun σ H Q ⟨ρ, S, Qh, Xh, hσ, hS, h, k, x⟩ p hp => by
    have t0 : Tk X.K H (upd H p (.dK [])) := Tk.new hp
    refine ⟨ρ, _, _, Xh, hσ.mono t0, hS.new hp (.mdK upd_same .nil), h p (hS.free hp), fun d1 S1 v1 H1 q1 t1 r1 a1 => ?_, x.mono t0⟩
    refine ⟨ρ, S1, _, Xh, hσ.mono (t0.trans t1), a1, q1, fun d2 S2 v2 H2 q2 t2 r2 a2 => ?_, x.mono (t0.trans t1)⟩
    obtain ⟨e, q2⟩ := q2
    obtain ⟨gs, e1, e2⟩ := a2 p _ e
    cases e2
    have t3 : Tk X.K H2 (upd H2 p (.dK [])) := Tk.write e1 wr_dK
    have fin : ∀ z : Key, Qh (.ref p) (put S2 p (.dK [(z, d2)])) → Q (.ref p) (upd H2 p (.dK (mergeK [] [(z, v2)]))) := fun z q => by
      have t4 : Tk X.K H2 (upd H2 p (.dK (mergeK [] [(z, v2)]))) := Tk.write e1 wr_dK
      exact k _ _ _ _ q (((t0.trans t1).trans t2).trans t4) (.ref p) (a2.write e1 wr_dK (.mdK upd_same (.cons ⟨rfl, r2.mono t4⟩ .nil)))
    cases d1 with
    | str z =>
      have e5 := (r1.mono t2).i_str
      subst e5
      exact ⟨e1, [(.inr z, v2)], rfl, by simp, fin _ q2⟩
    | int z =>
      have e5 := (r1.mono t2).i_int
      subst e5
      exact ⟨e1, [(.inl z, v2)], rfl, by simp, fin _ q2⟩
    | _ => exact q2.elim
def rMulS : R2 := fun x y H Q => ∃ z n, x = .str z ∧ y = .int n ∧ (2 ≤ n ∧ n ≤ 1000 ∧ 0 < z.length ∧ z.length ≤ 1000) ∧ Q (.str (repStr z n)) H
theorem op_mulS : OpR X (binaryOp .Mult) rMulS := by
  intro pins s σ H x y v u Q I rx ry h
  obtain ⟨z, n, rfl, rfl, ⟨h1, h2, h3, h4⟩, q⟩ := h
  obtain ⟨t, rfl⟩ := rx
  obtain ⟨t2, rfl⟩ := ry
  have c : (n == 1 || z.length == 0) = false := by
    rw [Bool.or_eq_false_iff]
    exact ⟨by simp; omega, by simp; omega⟩
  have hlen : z.length * n.toNat ≤ 1000 * 1000 := Nat.mul_le_mul h4 (by omega)
  refine P.mul_str ?_ (fun _ _ => ?_) (fun _ _ => ?_) ?_
  · rw [decide_eq_false (by omega), decide_eq_false (by omega)]; rfl
  · have : (1000 : Int) ≤ (2 ^ 63 - 1 : Int) / n := Int.le_ediv_of_mul_le (by omega) (by omega)
    omega
  · unfold Builtin.Str.tooLong
    rw [decide_eq_false]
    rw [sizeLine_eq]
    omega
  · rw [if_neg (by omega), if_neg (by rw [c]; decide)]
    have hl : ∀ (k : Nat) (acc : Array Nat), ((List.replicate k z.cps).foldl (· ++ ·) acc).size = acc.size + k * z.cps.size := by
      intro k
      induction k with
      | zero => intro acc; simp
      | succ k ih => intro acc; rw [List.replicate_succ, List.foldl_cons, ih]; simp [Nat.add_mul]; omega
    refine ⟨?_, .str (repStr z n), H, I.tok _, ⟨_, rfl⟩, q⟩
    show (((List.replicate n.toNat z.cps).foldl (· ++ ·) #[]).size : Nat) ≤ sizeLine
    rw [hl, sizeLine_eq]
    have : n.toNat * z.cps.size ≤ 1000 * 1000 := Nat.mul_le_mul (by omega) h4
    simp
    omega
theorem l_mulS : LR2 K rMulS rdMulS := by
  intro x y H dx dy S Qh Q rx ry hS h k
  unfold rdMulS at h
  split at h
  · exact ⟨_, _, rx.i_str, ry.i_int, h.1, k.now h.2 (.str _) hS⟩
  · exact h.elim
end
end VD

namespace VD
open PySem PySem.Spec PyProof.Rows L2
theorem ve_base : PySem.HandSPX.refsVE [.type "ValueError", .type "Exception", .type "BaseException", .type "object"] = true := by decide +kernel
theorem ve_step {a : Addr} {r : List Value} (h : PySem.HandSPX.refsVE r = true) : PySem.HandSPX.refsVE (.ref a :: r) = true := h
/-! ### own exceptions with one field -/
def spInit (C : Addr) (f : Str) : Sp := fun vs H Q _ => ∃ a v, vs = [.ref a, v] ∧ H a = some (exo a C none) ∧ ∀ dx, H dx = none → dx ≠ a → Q .non (upd (upd H dx (exd dx [(f, v)])) a (exo a C (some dx)))
theorem okInit {P : Program} {w : World} {K : PySem.W.Frag} {mg : Str → Option Value} {base : Heap} {x qual : Str} {st : Stmt} {g C : Addr} {fd : FuncData} {p1 p2 f : Str} (F : Fun K x qual st g fd) (Sc : FnScope [p1, p2] [p1, p2] (defScope st)) (T : OexC K C) (hno : PySem.W.findIn K (.ref C) f = some none)
    (hb : ∀ (cdv : Value) (A : Around) (outer : List Env) (s : Shared) (H : Hp) (E : XK), Room 0 (A.deeper (envOfC qual (defScope st) s.heap.objs.size g cdv)) →
      PSs (cxOf (L2.CX P w) P w K mg base [p1, p2] qual (defScope st) g cdv A outer s H E) (defBody st) (tOst K f (tVar 0) (tVar 1))) : FnOk P w K mg base (L2.CX P w) 1 g fd [p1, p2] (spInit C f) := by
  refine Fun.okX F Sc (fun vs H Q E ⟨a, v, e, _⟩ => by rw [e]; rfl) fun cdv A outer s H vs Q E hr' ⟨a, v, e, ea, q⟩ => ?_
  subst e
  exact ⟨_, hb cdv A outer s H E hr', v, rfl, .ref a, rfl, a, C, rfl, T, hno, .inl ⟨ea, fun dx n ne => q dx n ne⟩⟩
def dRaiseF (cls : Value) (f : Str) (das : DA) : DS := fun D ρ S => das ρ S (fun ds S1 => match ds with
  | [d] => ∀ dx, S1 dx = none → D.ex cls (some dx) ρ (put S1 dx (.xd [(f, d)]))
  | _ => False) (D.xd ρ)
section
variable {X : Cx} {W : WX}
theorem s_raise1 {x f : Str} {C fI : Addr} {k : Nat} {fd : FuncData} {ps : List Str} {e : Expr} {das : DA} {p pos' pos : Pos} (hc : X.calm = true) (tk : Takes X W) (T : OexC X.K C) (iC : PySem.W.findIn X.K (.ref C) "__init__" = some (some (.ref fI)))
    (tI : PySem.W.typeIn X.K (.ref fI) = some (.type "function")) (F1 : FnOk X.prog X.w X.K X.mg X.base (L2.CX X.prog X.w) k fI fd ps (spInit C f)) (hr : Room (k + 1) X.A) (hb : Binds X.K fd ps []) (gC : X.mg x = some (.ref C)) (ha : PA X [e] (lowA X.K W das)) (hg : Gl X x := by rfl)
    (hdb : (x == ("__debug__" : Str)) = false := by decide) (he : starEach [e] X.env = (false, eval e X.env) :: starEach [] X.env := by rfl) (hpl : (backTo pos' (starEach [] X.env)).any (·.1) = false := by rfl) :
    PS X (.Raise (some (.Call (.Name x p) [e] [] pos')) none pos) (lowS X.K W (dRaiseF (.ref C) f das)) :=
  psi (ps_raise hc tk (pmk_oex (dvs := []) (ds := []) T iC tI F1 hr hb .nil (passes_call tk fun _ _ _ _ h => h.elim) hg gC ha hdb he hpl)) fun D σ H ⟨ρ, S, Dh, hσ, hS, h, k⟩ => by
    refine ⟨ρ, S, _, _, hσ, hS, h, fun ds S1 vs H1 q t r a => ?_, k.lx hσ⟩
    match ds, q, r with
    | [d], q, r =>
      obtain ⟨v, rfl, rv⟩ := one_i r
      refine ⟨by simp, fun e1 n1 => ⟨e1, v, rfl, upd_same, fun dx nd ne => ?_⟩⟩
      have nd1 : H1 dx = none := by rw [upd_ne ne] at nd; exact nd
      refine ⟨rfl, dx, [(f, v)], upd_same, ?_, nd1, ?_⟩
      · rw [upd_ne ne]; exact upd_same
      · have eH : upd (del (upd (upd (upd H1 e1 (exo e1 C none)) dx (exd dx [(f, v)])) e1 (exo e1 C (some dx))) e1) dx (.xd [(f, v)]) = upd H1 dx (.xd [(f, v)]) := by
          funext b
          by_cases h1 : b = dx
          · subst h1; rw [upd_same, upd_same]
          · rw [upd_ne h1, upd_ne h1]
            by_cases h2 : b = e1
            · subst h2; rw [del_same, n1]
            · rw [del_ne h2, upd_ne h2, upd_ne h1, upd_ne h2]
        rw [eH]
        have t2 : Tk X.K H1 (upd H1 dx (.xd [(f, v)])) := Tk.new nd1
        exact k.ex _ _ ρ _ σ _ (q dx (a.free nd1)) (t.trans t2) (hσ.mono (t.trans t2)) (a.new nd1 (.mxd upd_same (.cons ⟨rfl, rv.mono t2⟩ .nil)))
    | [], q, _ => exact q.elim
    | _ :: _ :: _, q, _ => exact q.elim
/-- error.f in a suite -/
def dXf (a : Addr) (cls : Value) (da : Option Addr) (C : Addr) (f : Str) (de : DE) : DE := fun ρ S Q X => de ρ S (fun x S1 => x = .ref a ∧ cls = .ref C ∧ ∃ dd fs v, da = some dd ∧ S1 dd = some (.xd fs) ∧ fs.lookup f = some v ∧ Q v S1) X
theorem lookF {K : PySem.W.Frag} {H : Hp} {f : Str} {d : Dv} : ∀ {gs : List (Str × V)} {fs : List (Str × Dv)}, RepF K H gs fs → fs.lookup f = some d → ∃ v, gs.lookup f = some v ∧ Rep K H v d
  | _, _, .nil, e => by cases e
  | (g, v) :: gs, (g', d') :: fs, .cons ⟨e1, r⟩ t, e => by
    dsimp only at e1 r
    subst e1
    rw [List.lookup_cons] at e ⊢
    cases h : f == g with
    | true =>
      rw [h] at e
      cases e
      exact ⟨v, rfl, r⟩
    | false =>
      rw [h] at e
      exact lookF t e
theorem d_xf {a C : Addr} {oe : Obj} {cls : Value} {da : Option Addr} {pn : List (Addr × Obj)} {e : Expr} {de : DE} {pos : Pos} {n : Str} (T : XfC X.K C) (hno : PySem.W.findIn X.K (.ref C) n = some none)
    (hz : Zc cls da oe) (hf : ∃ vs, oe.data = .fields vs) (he : PE (X.suite a ((a, oe) :: pn)) e (low X.K W de)) (hb : attributeBase e n X.env (eval e X.env) = eval e X.env := by rfl) :
    PE (X.suite a ((a, oe) :: pn)) (.Attribute e n pos) (low X.K W (dXf a cls da C n de)) :=
  pei (pe_xf T hno hz hf he hb) fun σ H Q ⟨ρ, S, Qh, Xh, hσ, hS, h, k, x⟩ => ⟨ρ, S, _, Xh, hσ, hS, h, fun d1 S1 v1 H1 q1 t1 r1 a1 => by
    obtain ⟨e1, e2, dd, fs, v, e3, e4, e5, q⟩ := q1
    subst e1
    obtain ⟨gs, g1, g2⟩ := a1 dd _ e4
    obtain ⟨u, u1, u2⟩ := lookF g2 e5
    exact ⟨r1.i_ref, e2, dd, gs, u, e3, g1, u1, k v S1 u H1 q t1 u2 a1⟩, x⟩
end
end VD

namespace VD
open PySem PySem.Spec PyProof.Rows L2
/-! ### try, the first clause with a name and taking every exception of the body; what other clauses follow is all one -/
def offSlot (i : Nat) (D : Ends) : Ends := { nx := fun σ H => D.nx (σ.set i none) H, rt := D.rt, bk := fun σ H => D.bk (σ.set i none) H, ct := fun σ H => D.ct (σ.set i none) H }
def wTake (K : PySem.W.Frag) (c : Value) (i : Nat) (ts : Addr → Value → Option Addr → TS) (D : Ends) : WX := fun cls d σ H =>
  PySem.W.exmOne K cls c = some true ∧ ∀ a, H a = none → ts a cls d (offSlot i D) (σ.set i (some (.ref a))) H
section
variable {X : Cx} {x n : Str} {c : Value} {i : Nat} {bd su : List Stmt} {s₁ : Stmt} {np p1 p2 : Pos} {others : List ExceptHandler} {tb : WX → TS} {ts : Addr → Value → Option Addr → TS}
/-- an exception's object is no frame -/
theorem no_frame {B g : Heap} {a : Addr} {o : Obj} {vs : Array Value} (ff : g.FunFrames B (X.env :: X.outer)) (e : g.get? a = some o) (d : o.data = .fields vs) : a ∉ frs (X.env :: X.outer) := fun hm => by
  obtain ⟨_, o2, e2, nf⟩ := ff.mem hm
  cases e.symm.trans e2
  exact nf _ d
theorem ps_take (hs : X.stack = X.env :: X.outer) (hf : X.env.frame = some X.env.locals) (hN : X.N.Nodup) (hi : X.N[i]? = some n) (hln : X.env.kindOf n = some .local) (hc : Names X x c)
    (hb : ∀ (W : WX) (pn : List (Addr × Obj)) (xe : Value → Shared → Prop), Takes (X.tr pn xe) W → PSs (X.tr pn xe) bd (tb W))
    (hsu : ∀ (a : Addr) (oe : Obj) (cls : Value) (d : Option Addr) (pn : List (Addr × Obj)), Zc cls d oe → (∃ vs, oe.data = .fields vs) → PSs (X.suite a ((a, oe) :: pn)) (s₁ :: su) (ts a cls d)) :
    PS X (.Try bd (.ExceptHandler (some (.Name x np)) (some n) (s₁ :: su) p2 :: others) [] [] p1) (fun D σ H => tb (wTake X.K c i ts D) D σ H) := by
  refine ⟨fun pins s σ H D I start => wpAny_Try_except ?_⟩
  have ok := I.ok
  have frames : X.A.frames = some (X.env :: X.outer) := by rw [ok.frames, hs]
  let rest := (.ExceptHandler (some (.Name x np)) (some n) (s₁ :: su) p2 : ExceptHandler) :: others
  let go : Value → Shared → Prop := fun e sa => wpAny (model X.prog X.w) X.A (noteFrame e X.env)
    (fun _ sb => wpAny (model X.prog X.w) X.A (setFlight e none) (fun _ sc => wpAny (model X.prog X.w) X.A (handleBy e X.env rest) (SP X pins D) X.xe sc) X.xe sb) X.xe sa
  have caught : Takes (X.tr (X.pn ++ pins) go) (wTake X.K c i ts D) := by
    intro u sz q
    obtain ⟨a, B, sI, pins2, σ2, H2, cls, d, rfl, J0, nb, up, sky, na, os, ag, match_, wish⟩ := q
    have J : Inv X pins σ2 H2 sI := J0.ofTry ok
    have sky2 : Sky B (X.env :: X.outer) a (Zc cls d) X.env.locals sz.heap := by rw [← hs]; exact sky
    show wpAny (model X.prog X.w) X.A (noteFrame (.ref a) X.env) _ _ _
    refine Sky.land Zc.steady frames hf sky2 fun g fly up2 => ?_
    have J1 : Inv X pins σ2 H2 { sz with heap := g } := J.landed nb fly.1 (up.trans up2) os ag
    obtain ⟨o1, v1, there1, z1, dat1⟩ := fly.there
    have far := no_frame fly.2.2.1 there1 dat1
    have notL : a ≠ X.env.locals := fun z => far (List.mem_filterMap.mpr ⟨X.env, List.mem_cons_self, by rw [hf, z]⟩)
    have notF : a ∉ X.fs := fun hm => by
      obtain ⟨e, he, w⟩ := List.mem_filterMap.mp hm
      exact far (List.mem_filterMap.mpr ⟨e, List.mem_cons_of_mem _ he, w⟩)
    have S1 := J1.suite there1 dat1 na notL notF
    refine wpAny_handleBy_cons (codeAny_handlers_test ?_) (by intro w; cases w)
    have typ : PySem.W.Looks (model X.prog X.w) g (typeOf (.ref a)) cls := fun A Q E sq keep w => wpAny_typeOf_ref (keep _ _ there1) (by rw [z1.1]; exact w)
    have looks := PySem.W.exm_one (M := model X.prog X.w) (J1.kIn) typ match_
    have named : ∀ {Q : Value → Shared → Prop} {E : Value → Shared → Prop}, Q c { sz with heap := g } → wpAny (model X.prog X.w) (X.A.mark (some (.ref a))) (eval (.Name x np) X.env) Q E { sz with heap := g } := by
      intro Q E w
      obtain ⟨hg, hd, hm | ⟨hm, hv, hn⟩⟩ := hc
      · exact ld_glob (X := X.suite a ((a, o1) :: (X.pn ++ pins))) S1 hg hm w hd
      · exact ld_blt (X := X.suite a ((a, o1) :: (X.pn ++ pins))) S1 hg hm hv w hn hd
    refine named (looks.here (codeAny_handlers_suite_as (HandSPX.lands_againZ fly fun g2 fly2 up3 => ?_)))
    have J2 : Inv X pins σ2 H2 { sz with heap := g2 } := J.landed nb fly2.1 ((up.trans up2).trans up3) os ag
    obtain ⟨o2, v2, there2, z2, dat2⟩ := fly2.there
    have S2 := J2.suite there2 dat2 na notL notF
    refine store_ok (X := X.suite a ((a, o2) :: (X.pn ++ pins))) (v := .ref a) S2 hN hi (.inl hln) rfl (fun s5 S5 => ?_) (.inr hln)
    refine wpAny_mono ((hsu a o2 cls d (X.pn ++ pins) z2 ⟨_, dat2⟩).run [] s5 _ H2 _ S5 (wish a na)) (fun f s6 ends => ?_) (fun _ _ z => z.elim)
    have drop : ∀ {σ6 : L2.St} {H6 : Hp} {Q : Shared → Prop}, Inv (X.suite a ((a, o2) :: (X.pn ++ pins))) [] σ6 H6 s6 → (∀ s7, Inv X pins (σ6.set i none) H6 s7 → Q s7) →
        wpAny (model X.prog X.w) X.A (do bindName X.env n .none; unbindBehindTheSuite X.env n p2) (fun _ s7 => Q s7) X.xe s6 := fun S6 w => gone_ok (S6.unsuite ok) hN hi hln w
    cases f with
    | ret u => obtain ⟨v6, σ6, H6, S6, r6, w6⟩ := ends; exact drop S6 fun s7 J7 => ⟨_, _, _, J7, r6, w6⟩
    | next => obtain ⟨σ6, H6, S6, w6⟩ := ends; exact drop S6 fun s7 J7 => ⟨_, _, J7, w6⟩
    | brk => obtain ⟨σ6, H6, S6, w6⟩ := ends; exact drop S6 fun s7 J7 => ⟨_, _, J7, w6⟩
    | cont => obtain ⟨σ6, H6, S6, w6⟩ := ends; exact drop S6 fun s7 J7 => ⟨_, _, J7, w6⟩
  refine wpAny_mono ((hb _ _ go caught).run [] s σ H D (I.toTry _) start) (fun f sf ends => ?_) (fun e se he => he)
  cases f with
  | ret u => obtain ⟨v, σ3, H3, J3, r, w⟩ := ends; exact ⟨v, σ3, H3, J3.ofTry ok, r, w⟩
  | next => obtain ⟨σ3, H3, J3, w⟩ := ends; exact wpAny_execs_nil ⟨σ3, H3, J3.ofTry ok, w⟩
  | brk => obtain ⟨σ3, H3, J3, w⟩ := ends; exact ⟨σ3, H3, J3.ofTry ok, w⟩
  | cont => obtain ⟨σ3, H3, J3, w⟩ := ends; exact ⟨σ3, H3, J3.ofTry ok, w⟩
end
/-- over plain data -/
def offD (i : Nat) (D : DEnds) : DEnds := { nx := fun ρ S => D.nx (ρ.set i none) S, rt := D.rt, bk := fun ρ S => D.bk (ρ.set i none) S, ct := fun ρ S => D.ct (ρ.set i none) S }
def exTake (i : Nat) (tab : List (Value × Bool)) (s : Addr → Value → Option Addr → DS) (D : DEnds) (cls : Value) (da : Option Addr) (ρ : Rho) (S : Sto) : Prop := (cls, true) ∈ tab ∧ ∀ a, S a = none → s a cls da (offD i D) (ρ.set i (some (.ref a))) S
def dTake (b : DS) (i : Nat) (tab : List (Value × Bool)) (s : Addr → Value → Option Addr → DS) : DS := fun D ρ S => b { D with ex := exTake i tab s D } ρ S
theorem s_take (i : Nat) {X : Cx} {W : WX} {x n : Str} {c : Value} {bd su : List Stmt} {s₁ : Stmt} {np p1 p2 : Pos} {others : List ExceptHandler} {b : DS} {tab : List (Value × Bool)} {s : Addr → Value → Option Addr → DS} (hN : X.N.Nodup) (hc : Names X x c) (ht : ∀ p ∈ tab, PySem.W.exmOne X.K p.1 c = some p.2)
    (hb : ∀ (W' : WX) (pn : List (Addr × Obj)) (xe : Value → Shared → Prop), Takes (X.tr pn xe) W' → PSs (X.tr pn xe) bd (lowS X.K W' b))
    (hsu : ∀ (a : Addr) (oe : Obj) (cls : Value) (d : Option Addr) (pn : List (Addr × Obj)), Zc cls d oe → (∃ vs, oe.data = .fields vs) → PSs (X.suite a ((a, oe) :: pn)) (s₁ :: su) (lowS X.K W0 (s a cls d)))
    (hi : X.N[i]? = some n := by rfl) (hln : X.env.kindOf n = some .local := by rfl) (hs : X.stack = X.env :: X.outer := by rfl) (hf : X.env.frame = some X.env.locals := by rfl) :
    PS X (.Try bd (.ExceptHandler (some (.Name x np)) (some n) (s₁ :: su) p2 :: others) [] [] p1) (lowS X.K W (dTake b i tab s)) :=
  psi (ps_take (tb := fun W' => lowS X.K W' b) (ts := fun a cls d => lowS X.K W0 (s a cls d)) hs hf hN hi hln hc hb hsu) fun D σ H ⟨ρ, S, Dh, hσ, hS, h, k⟩ =>
    ⟨ρ, S, { Dh with ex := exTake i tab s Dh }, hσ, hS, h, ⟨k.nx, k.rt, k.bk, k.ct, fun cls da ρ' S' σ' H' ⟨q1, q2⟩ t r a => ⟨ht _ q1, fun e ne => ⟨_, S', _, r.set i (.ref e), a, q2 e (a.free ne),
      ⟨fun ρ2 S2 σ2 H2 q t2 r2 a2 => k.nx _ S2 _ H2 q (t.trans t2) (r2.setN i) a2, k.rt.mono t, fun ρ2 S2 σ2 H2 q t2 r2 a2 => k.bk _ S2 _ H2 q (t.trans t2) (r2.setN i) a2, fun ρ2 S2 σ2 H2 q t2 r2 a2 => k.ct _ S2 _ H2 q (t.trans t2) (r2.setN i) a2, fun _ _ _ _ _ _ q => q.elim⟩⟩⟩⟩⟩
end VD

namespace VD
open PySem PySem.Spec PyProof.Rows L2
/-! ### xs.extend(ys), ys a tuple or a list -/
theorem list_extendS (l : Addr) (its : Array Value) (n : Nat) (b : Addr) (more : Array Value) (n2 : Nat) (dd : Option Addr) (sl : Array (Option Value)) (h0 : ¬(!its.isEmpty && Builtin.List.listTooLong (its.size + more.size)) = true) (h1 : its.size ≤ sizeLine) (h2 : its.size + more.size ≤ sizeLine + 1) :
    Meets (Builtin.«list.extend» ⟨[.ref l, .ref b], []⟩) (fun _ R s => s.heap.get? l = some { cls := .type "list", dict := none, data := .seq its n, slots := #[] } ∧ s.heap.get? b = some { cls := .type "tuple", dict := dd, data := .seq more n2, slots := sl } ∧
      R (.ok (.ret Value.none)) { s with heap := s.heap.update l (Obj.mapSeq fun x => x ++ more), toks := s.toks }) :=
  .of_wp fun prog w A R s h => by
    obtain ⟨hp, g, d, tk, os⟩ := s
    obtain ⟨hl, hb, h⟩ := h
    have f1 := AutoSeq1.idx_int
    have f2 := AutoSeq1.sub_tuple_tuple
    have f3 := AutoSeq1.sub_list_list
    have f4 := AutoSeq1.sub_tuple_list
    have f5 := AutoSeq1.sub_list_tuple
    have hz : (its ++ more).size ≤ sizeLine + 1 := by rw [Array.size_append]; exact h2
    wp_walk using (wpAny_updateSeq hl rfl (hz := h1) (_hz' := hz)), wpAny_loadPart' hl, wpAny_loadPart' hb
    exact ⟨_, rfl, h⟩
def rExtT (K : PySem.W.Frag) : V → List V → Hp → VK → Prop := fun x vs H Q => ∃ l b xs zs, x = .ref l ∧ vs = [.ref b] ∧ H l = some (.lst xs) ∧ SqT K H b zs ∧ xs.length + zs.length ≤ sizeLine ∧ Q .non (upd H l (.lst (xs ++ zs)))
section
variable {X : Cx} {K : PySem.W.Frag}
theorem mt_extT : MtR X "list.extend" (rExtT X.K) := by
  intro pins s σ H x vs v us Q I rx rv h
  obtain ⟨l, b, xs, zs, rfl, rfl, hH, hB, hz, q⟩ := h
  cases rx
  obtain ⟨u, rfl, ru⟩ := rv.one
  cases ru
  obtain ⟨z, its, n, r, hl, e⟩ := I.lstM hH
  obtain ⟨more, r2, ⟨⟨cls, dd, data, sl⟩, e2, hc, n2, hd⟩, _⟩ := I.tuple hB
  simp only at hc hd
  subst hc hd
  have hl2 := r2.length
  have few : its.toArray.size + more.toArray.size ≤ sizeLine := by rw [List.size_toArray, List.size_toArray]; omega
  have short : ¬ (!its.toArray.isEmpty && Builtin.List.listTooLong (its.toArray.size + more.toArray.size)) = true := by
    rw [notLongL few, Bool.and_false]
    exact Bool.false_ne_true
  refine call_meets F.slot_list_extend ⟨_, e, rfl⟩ F.entry_list_extend (F.args_list_extend_2 _ _) (list_extendS l its.toArray n b more.toArray n2 dd sl short (by rw [List.size_toArray]; omega) (by omega)) ⟨e, e2, ?_⟩
  refine ⟨.non, _, I.lset (its' := its ++ more) hH e (by simp) (r.append r2) ?_, rfl, q⟩
  rw [List.length_append]
  exact hz
def rdExtend : RDM := fun x ds S Q => match x, ds with
  | .ref a, [.tup ys] => match S a with
    | some (.lst xs) => xs.length + ys.length ≤ sizeLine ∧ Q .non (put S a (.lst (xs ++ ys)))
    | _ => False
  | .ref a, [.ref b] => match S a, S b with
    | some (.lst xs), some (.lst ys) => xs.length + ys.length ≤ sizeLine ∧ Q .non (put S a (.lst (xs ++ ys)))
    | _, _ => False
  | _, _ => False
theorem mt_extA : MtR X "list.extend" (fun x vs H Q => rExtT X.K x vs H Q ∨ rExtend x vs H Q) := MtR.or mt_extT mt_extend
theorem l_extend : LRM K (fun x vs H Q => rExtT K x vs H Q ∨ rExtend x vs H Q) rdExtend := by
  intro x vs H d ds S Qh Q rx r hS h k
  unfold rdExtend at h
  split at h
  · rename_i a ys
    obtain ⟨v, rfl, r1⟩ := one_i r
    obtain ⟨b, zs, rfl, hb, lb⟩ := r1.i_tup
    split at h
    · rename_i xs ea
      obtain ⟨us, h1, l⟩ := hS _ _ ea
      have tw : Tk K H (upd H a (.lst (us ++ zs))) := Tk.write h1 wr_lst
      exact .inl ⟨a, b, us, zs, rx.i_ref, rfl, h1, hb, by rw [l.length, lb.length]; exact h.1, k _ _ _ _ h.2 tw .non (hS.write h1 wr_lst (.mlst upd_same ((l.mono tw).append (lb.mono tw))))⟩
    · exact h.elim
  · rename_i a b
    obtain ⟨v, rfl, r1⟩ := one_i r
    split at h
    · rename_i xs ys ea eb
      obtain ⟨us, h1, l⟩ := hS _ _ ea
      obtain ⟨zs, h2, lb⟩ := hS _ _ eb
      have tw : Tk K H (upd H a (.lst (us ++ zs))) := Tk.write h1 wr_lst
      rw [r1.i_ref]
      exact .inr ⟨a, b, us, zs, rx.i_ref, rfl, h1, h2, by rw [l.length, lb.length]; exact h.1, k _ _ _ _ h.2 tw .non (hS.write h1 wr_lst (.mlst upd_same ((l.mono tw).append (lb.mono tw))))⟩
    · exact h.elim
  · exact h.elim
end
end VD

namespace Lw
open PySem PySem.Spec PyProof.Rows L2 VD
/-! ### kinds of things -/
def known (S : Sto) (d : Dv) : Prop := ∃ t, tyN S d = some t
theorem known.new {S : Sto} {d : Dv} {p : Addr} {m : MO} (h : known S d) (hp : S p = none) : known (put S p m) d := by
  obtain ⟨t, h⟩ := h
  unfold known
  cases d with
  | ref a =>
    dsimp only [tyN] at h ⊢
    by_cases e : a = p
    · subst e; rw [hp] at h; cases h
    · rw [put_ne e]; exact ⟨t, h⟩
  | _ => exact ⟨t, h⟩
theorem known.sub {S T : Sto} {d : Dv} (h : known S d) (s : Sub S T) : known T d := by
  obtain ⟨t, h⟩ := h
  unfold known
  cases d with
  | ref a =>
    dsimp only [tyN] at h ⊢
    cases e : S a with
    | none => rw [e] at h; cases h
    | some m =>
      rw [s a m e]
      rw [e] at h
      exact ⟨t, h⟩
  | _ => exact ⟨t, h⟩
def isInt : Dv → Bool
  | .int _ => true
  | _ => false
def isBl : Dv → Bool
  | .bl _ => true
  | _ => false
def isTup : Dv → Bool
  | .tup _ => true
  | _ => false
def isStr : Dv → Bool
  | .str _ => true
  | _ => false
theorem isi_of {S : Sto} {d : Dv} {n : String} {Q : QD} {b : Bool} (h : known S d) (hn : tyNames.contains n = true) (hb : ∀ t, tyN S d = some t → isiB t n = b) (q : Q (.bl b) S) : rdIsi [d, .ty n] S Q := by
  obtain ⟨t, h⟩ := h
  unfold rdIsi isiD
  simp only [h, hn, if_true]
  rw [hb t h]
  exact q
theorem tyN_ref {S : Sto} {a : Addr} {t : String} (h : tyN S (.ref a) = some t) : t = "list" ∨ t = "dict" := by
  dsimp only [tyN] at h
  split at h
  · cases h; exact .inl rfl
  · cases h; exact .inr rfl
  · cases h
theorem isi_int {S : Sto} {d : Dv} {Q : QD} (h : known S d) (q : Q (.bl (isInt d || isBl d)) S) : rdIsi [d, .ty "int"] S Q := isi_of h (by decide) (fun t ht => by
  cases d with
  | ref a => rcases tyN_ref ht with rfl | rfl <;> rfl
  | ty n => cases ht
  | _ => cases ht; rfl) q
theorem isi_bool {S : Sto} {d : Dv} {Q : QD} (h : known S d) (q : Q (.bl (isBl d)) S) : rdIsi [d, .ty "bool"] S Q := isi_of h (by decide) (fun t ht => by
  cases d with
  | ref a => rcases tyN_ref ht with rfl | rfl <;> rfl
  | ty n => cases ht
  | _ => cases ht; rfl) q
theorem isi_tuple {S : Sto} {d : Dv} {Q : QD} (h : known S d) (q : Q (.bl (isTup d)) S) : rdIsi [d, .ty "tuple"] S Q := isi_of h (by decide) (fun t ht => by
  cases d with
  | ref a => rcases tyN_ref ht with rfl | rfl <;> rfl
  | ty n => cases ht
  | _ => cases ht; rfl) q
theorem isi_str {S : Sto} {d : Dv} {Q : QD} (h : known S d) (q : Q (.bl (isStr d)) S) : rdIsi [d, .ty "str"] S Q := isi_of h (by decide) (fun t ht => by
  cases d with
  | ref a => rcases tyN_ref ht with rfl | rfl <;> rfl
  | ty n => cases ht
  | _ => cases ht; rfl) q
/-! ### checks -/
def sp_is_integer : SpD := fun ds S Q _ => ∃ d, ds = [d] ∧ known S d ∧ Q (.bl (isInt d)) S
theorem len_is_integer : ∀ ds S Q X, sp_is_integer ds S Q X → ds.length = 1 := by rintro _ _ _ _ ⟨_, rfl, _⟩; rfl
def r_is_integer : DS := (dRet (dAndV (dCB rdIsi (dCons (dVar 0) (dCons (dC (.ty "int")) dNil))) (dNotV (dCB rdIsi (dCons (dVar 0) (dCons (dC (.ty "bool")) dNil))))))
theorem rd_is_integer : Rd r_is_integer 1 sp_is_integer := by
  rintro ds S Q X ⟨d, rfl, hk, h⟩
  unfold r_is_integer
  simp only [dSeq, dAsg, dRet, dRetN, dIfS, dNext, dDrop, dRaise, dBreak, dCont, dTest, dOp, dVar, dC, dCB, dCons, dNil, dCall, dAndV, dOrV, dNotV, dAndT, dOrT, dNotT, dIf, dTup, dLst, dSl, oSome, oNone, dNeg, gN, gT, gConsD, gNilD, gSubD, dChain, dPar, dAug, dLc, dFor, dBM, isLst, iSeqD, iR1, iR2, iR3, dYes, rdAdd, rdSub, rdMul, rdDiv, rdMod, rdPow, rdIAdd, rdCmp, rdIsN, isNon, rdEqG, rdIx, rdSet, rdSl, rdLen, rdInt1, rdInt, rdInt2, rdAppend, startN, wipeD, List.map_cons, List.map_nil, List.length_cons, List.length_nil, Nat.zero_add, Nat.sub_self, Nat.reduceAdd, Nat.reduceSub, List.replicate_succ, List.replicate_zero, List.cons_append, List.nil_append, List.append_nil, List.getElem?_cons_zero, List.getElem?_cons_succ, List.set_cons_zero, List.set_cons_succ, Option.some.injEq, exists_eq_left', DEnds.xd, atI_0, atI_1, atI_2, atI_3, atI_4, atI_5, atI_6, atI_7, ixN_50, ixN_51, ixN_52, ixN_53, ixN_54, ixN_30, ixN_31, ixN_32, put_same, put_put, true_and, and_true]
  refine isi_int hk ?_
  cases e : (isInt d || isBl d) with
  | true =>
    refine isi_bool hk ?_
    cases d <;> first | exact h | simp [isInt, isBl] at e
  | false =>
    cases d <;> first | exact h | simp [isInt, isBl] at e
def within (d : Dv) (a b : Int) : Bool := match d with
  | .int i => decide (a ≤ i) && decide (i ≤ b)
  | _ => false
def sp_is_within : SpD := fun ds S Q _ => ∃ d a b, ds = [d, .int a, .int b] ∧ known S d ∧ Q (.bl (within d a b)) S
theorem len_is_within : ∀ ds S Q X, sp_is_within ds S Q X → ds.length = 3 := by rintro _ _ _ _ ⟨_, _, _, rfl, _⟩; rfl
def r_is_within : DS := (dRet (dAndV (dCall sp_is_integer (dCons (dVar 0) dNil)) (dChain rdLe rdLe (dVar 1) (dVar 0) (dVar 2))))
theorem rd_is_within : Rd r_is_within 3 sp_is_within := by
  rintro ds S Q X ⟨d, a, b, rfl, hk, h⟩
  unfold r_is_within
  simp only [dSeq, dAsg, dRet, dRetN, dIfS, dNext, dDrop, dRaise, dBreak, dCont, dTest, dOp, dVar, dC, dCB, dCons, dNil, dCall, dAndV, dOrV, dNotV, dAndT, dOrT, dNotT, dIf, dTup, dLst, dSl, oSome, oNone, dNeg, gN, gT, gConsD, gNilD, gSubD, dChain, dPar, dAug, dLc, dFor, dBM, isLst, iSeqD, iR1, iR2, iR3, dYes, rdAdd, rdSub, rdMul, rdDiv, rdMod, rdPow, rdIAdd, rdCmp, rdIsN, isNon, rdEqG, rdIx, rdSet, rdSl, rdLen, rdInt1, rdInt, rdInt2, rdAppend, startN, wipeD, List.map_cons, List.map_nil, List.length_cons, List.length_nil, Nat.zero_add, Nat.sub_self, Nat.reduceAdd, Nat.reduceSub, List.replicate_succ, List.replicate_zero, List.cons_append, List.nil_append, List.append_nil, List.getElem?_cons_zero, List.getElem?_cons_succ, List.set_cons_zero, List.set_cons_succ, Option.some.injEq, exists_eq_left', DEnds.xd, atI_0, atI_1, atI_2, atI_3, atI_4, atI_5, atI_6, atI_7, ixN_50, ixN_51, ixN_52, ixN_53, ixN_54, ixN_30, ixN_31, ixN_32, put_same, put_put, true_and, and_true]
  refine ⟨d, rfl, hk, ?_⟩
  cases d with
  | int i =>
    unfold within at h
    unfold isInt
    dsimp only
    simp only [dSeq, dAsg, dRet, dRetN, dIfS, dNext, dDrop, dRaise, dBreak, dCont, dTest, dOp, dVar, dC, dCB, dCons, dNil, dCall, dAndV, dOrV, dNotV, dAndT, dOrT, dNotT, dIf, dTup, dLst, dSl, oSome, oNone, dNeg, gN, gT, gConsD, gNilD, gSubD, dChain, dPar, dAug, dLc, dFor, dBM, isLst, iSeqD, iR1, iR2, iR3, dYes, rdAdd, rdSub, rdMul, rdDiv, rdMod, rdPow, rdIAdd, rdCmp, rdIsN, isNon, rdEqG, rdIx, rdSet, rdSl, rdLen, rdInt1, rdInt, rdInt2, rdAppend, startN, wipeD, List.map_cons, List.map_nil, List.length_cons, List.length_nil, Nat.zero_add, Nat.sub_self, Nat.reduceAdd, Nat.reduceSub, List.replicate_succ, List.replicate_zero, List.cons_append, List.nil_append, List.append_nil, List.getElem?_cons_zero, List.getElem?_cons_succ, List.set_cons_zero, List.set_cons_succ, Option.some.injEq, exists_eq_left', DEnds.xd, atI_0, atI_1, atI_2, atI_3, atI_4, atI_5, atI_6, atI_7, ixN_50, ixN_51, ixN_52, ixN_53, ixN_54, ixN_30, ixN_31, ixN_32, put_same, put_put, true_and, and_true]
    by_cases h1 : a ≤ i
    · simp only [h1, decide_true, Bool.true_and] at h ⊢
      exact h
    · simp only [h1, decide_false, Bool.false_and] at h ⊢
      exact h
  | _ => exact h
def sp_is_below : SpD := fun ds S Q _ => ∃ d n, ds = [d, .int n] ∧ known S d ∧ Q (.bl (within d 0 (n - 1))) S
theorem len_is_below : ∀ ds S Q X, sp_is_below ds S Q X → ds.length = 2 := by rintro _ _ _ _ ⟨_, _, rfl, _⟩; rfl
def r_is_below : DS := (dRet (dCall sp_is_within (dCons (dVar 0) (dCons (dC (.int 0)) (dCons (dOp rdSub (dVar 1) (dC (.int 1))) dNil)))))
theorem rd_is_below : Rd r_is_below 2 sp_is_below := by
  rintro ds S Q X ⟨d, n, rfl, hk, h⟩
  unfold r_is_below
  simp only [dSeq, dAsg, dRet, dRetN, dIfS, dNext, dDrop, dRaise, dBreak, dCont, dTest, dOp, dVar, dC, dCB, dCons, dNil, dCall, dAndV, dOrV, dNotV, dAndT, dOrT, dNotT, dIf, dTup, dLst, dSl, oSome, oNone, dNeg, gN, gT, gConsD, gNilD, gSubD, dChain, dPar, dAug, dLc, dFor, dBM, isLst, iSeqD, iR1, iR2, iR3, dYes, rdAdd, rdSub, rdMul, rdDiv, rdMod, rdPow, rdIAdd, rdCmp, rdIsN, isNon, rdEqG, rdIx, rdSet, rdSl, rdLen, rdInt1, rdInt, rdInt2, rdAppend, startN, wipeD, List.map_cons, List.map_nil, List.length_cons, List.length_nil, Nat.zero_add, Nat.sub_self, Nat.reduceAdd, Nat.reduceSub, List.replicate_succ, List.replicate_zero, List.cons_append, List.nil_append, List.append_nil, List.getElem?_cons_zero, List.getElem?_cons_succ, List.set_cons_zero, List.set_cons_succ, Option.some.injEq, exists_eq_left', DEnds.xd, atI_0, atI_1, atI_2, atI_3, atI_4, atI_5, atI_6, atI_7, ixN_50, ixN_51, ixN_52, ixN_53, ixN_54, ixN_30, ixN_31, ixN_32, put_same, put_put, true_and, and_true]
  exact ⟨d, 0, n - 1, rfl, hk, h⟩
/-! ### rows -/
def isRow (d : Dv) : Bool := match d with
  | .tup xs => decide ((xs.length : Int) ≤ 300000) && xs.all fun x => within x 0 255
  | _ => false
def knownL (S : Sto) (d : Dv) : Prop := known S d ∧ match d with
  | .tup xs => ∀ x ∈ xs, known S x
  | _ => True
def sp_is_row : SpD := fun ds S Q _ => ∃ d, ds = [d] ∧ knownL S d ∧ Q (.bl (isRow d)) S
theorem len_is_row : ∀ ds S Q X, sp_is_row ds S Q X → ds.length = 1 := by rintro _ _ _ _ ⟨_, rfl, _⟩; rfl
def r_is_row : DS := (dRet (dAndV (dCB rdIsi (dCons (dVar 0) (dCons (dC (.ty "tuple")) dNil))) (dAndV (dOp rdLe (dCB rdLen (dCons (dVar 0) dNil)) (dC (.int 300000))) (dCB rdAll (dCons (dLc (iSeqD (dVar 0)) (gN 1) dYes (dCall sp_is_below (dCons (dVar 1) (dCons (dC (.int 256)) dNil))) [1]) dNil)))))
theorem all_map {xs : List Dv} {f : Dv → Bool} : ∃ bs : List Bool, xs.map (fun x => Dv.bl (f x)) = bs.map Dv.bl ∧ bs.all id = xs.all f := by
  refine ⟨xs.map f, by rw [List.map_map]; rfl, ?_⟩
  induction xs with
  | nil => rfl
  | cons x xs ih => simp [ih]
theorem rd_is_row : Rd r_is_row 2 sp_is_row := by
  rintro ds S Q X ⟨d, rfl, ⟨hk, hl⟩, h⟩
  unfold r_is_row
  simp only [dSeq, dAsg, dRet, dRetN, dIfS, dNext, dDrop, dRaise, dBreak, dCont, dTest, dOp, dVar, dC, dCB, dCons, dNil, dCall, dAndV, dOrV, dNotV, dAndT, dOrT, dNotT, dIf, dTup, dLst, dSl, oSome, oNone, dNeg, gN, gT, gConsD, gNilD, gSubD, dChain, dPar, dAug, dLc, dFor, dBM, isLst, iSeqD, iR1, iR2, iR3, dYes, rdAdd, rdSub, rdMul, rdDiv, rdMod, rdPow, rdIAdd, rdCmp, rdIsN, isNon, rdEqG, rdIx, rdSet, rdSl, rdLen, rdInt1, rdInt, rdInt2, rdAppend, startN, wipeD, List.map_cons, List.map_nil, List.length_cons, List.length_nil, Nat.zero_add, Nat.sub_self, Nat.reduceAdd, Nat.reduceSub, List.replicate_succ, List.replicate_zero, List.cons_append, List.nil_append, List.append_nil, List.getElem?_cons_zero, List.getElem?_cons_succ, List.set_cons_zero, List.set_cons_succ, Option.some.injEq, exists_eq_left', DEnds.xd, atI_0, atI_1, atI_2, atI_3, atI_4, atI_5, atI_6, atI_7, ixN_50, ixN_51, ixN_52, ixN_53, ixN_54, ixN_30, ixN_31, ixN_32, put_same, put_put, true_and, and_true]
  refine isi_tuple hk ?_
  cases d with
  | tup xs =>
    unfold isTup
    dsimp only
    unfold isRow at h
    by_cases h1 : (xs.length : Int) ≤ 300000
    · simp only [h1, decide_true, Bool.true_and] at h ⊢
      refine lc_pure (fun x => Dv.bl (within x 0 255)) (by rw [sizeLine_eq]; omega) (fun _ _ _ => trivial) (fun x hx T Kq hs hq => ?_) fun p hp => ?_
      · simp only [dSeq, dAsg, dRet, dRetN, dIfS, dNext, dDrop, dRaise, dBreak, dCont, dTest, dOp, dVar, dC, dCB, dCons, dNil, dCall, dAndV, dOrV, dNotV, dAndT, dOrT, dNotT, dIf, dTup, dLst, dSl, oSome, oNone, dNeg, gN, gT, gConsD, gNilD, gSubD, dChain, dPar, dAug, dLc, dFor, dBM, isLst, iSeqD, iR1, iR2, iR3, dYes, rdAdd, rdSub, rdMul, rdDiv, rdMod, rdPow, rdIAdd, rdCmp, rdIsN, isNon, rdEqG, rdIx, rdSet, rdSl, rdLen, rdInt1, rdInt, rdInt2, rdAppend, startN, wipeD, List.map_cons, List.map_nil, List.length_cons, List.length_nil, Nat.zero_add, Nat.sub_self, Nat.reduceAdd, Nat.reduceSub, List.replicate_succ, List.replicate_zero, List.cons_append, List.nil_append, List.append_nil, List.getElem?_cons_zero, List.getElem?_cons_succ, List.set_cons_zero, List.set_cons_succ, Option.some.injEq, exists_eq_left', DEnds.xd, atI_0, atI_1, atI_2, atI_3, atI_4, atI_5, atI_6, atI_7, ixN_50, ixN_51, ixN_52, ixN_53, ixN_54, ixN_30, ixN_31, ixN_32, put_same, put_put, true_and, and_true]
        exact ⟨x, 256, rfl, (hl x hx).sub hs, hq⟩
      · unfold rdAll lstOf
        dsimp only
        rw [put_same]
        obtain ⟨bs, e1, e2⟩ := all_map (xs := xs) (f := fun x => within x 0 255)
        refine ⟨bs, e1, S, Sub.new hp, ?_⟩
        rw [e2]
        exact h
    · simp only [h1, decide_false, Bool.false_and] at h ⊢
      exact h
  | _ => exact h
def sp_check_row (c_NoRow : Addr) : SpD := fun ds S Q X => ∃ d, ds = [d] ∧ knownL S d ∧ if isRow d = true then Q .non S else X (.ref c_NoRow) none S
theorem len_check_row (c_NoRow : Addr) : ∀ ds S Q X, sp_check_row c_NoRow ds S Q X → ds.length = 1 := by rintro _ _ _ _ ⟨_, rfl, _⟩; rfl
def r_check_row (c_NoRow : Addr) : DS := (dIfS (dNotT (dTest (dCall sp_is_row (dCons (dVar 0) dNil)))) (dRaise (.ref c_NoRow)) dNext)
theorem rd_check_row (c_NoRow : Addr) : Rd (r_check_row c_NoRow) 1 (sp_check_row c_NoRow) := by
  rintro ds S Q X ⟨d, rfl, hk, h⟩
  unfold r_check_row
  simp only [dSeq, dAsg, dRet, dRetN, dIfS, dNext, dDrop, dRaise, dBreak, dCont, dTest, dOp, dVar, dC, dCB, dCons, dNil, dCall, dAndV, dOrV, dNotV, dAndT, dOrT, dNotT, dIf, dTup, dLst, dSl, oSome, oNone, dNeg, gN, gT, gConsD, gNilD, gSubD, dChain, dPar, dAug, dLc, dFor, dBM, isLst, iSeqD, iR1, iR2, iR3, dYes, rdAdd, rdSub, rdMul, rdDiv, rdMod, rdPow, rdIAdd, rdCmp, rdIsN, isNon, rdEqG, rdIx, rdSet, rdSl, rdLen, rdInt1, rdInt, rdInt2, rdAppend, startN, wipeD, List.map_cons, List.map_nil, List.length_cons, List.length_nil, Nat.zero_add, Nat.sub_self, Nat.reduceAdd, Nat.reduceSub, List.replicate_succ, List.replicate_zero, List.cons_append, List.nil_append, List.append_nil, List.getElem?_cons_zero, List.getElem?_cons_succ, List.set_cons_zero, List.set_cons_succ, Option.some.injEq, exists_eq_left', DEnds.xd, atI_0, atI_1, atI_2, atI_3, atI_4, atI_5, atI_6, atI_7, ixN_50, ixN_51, ixN_52, ixN_53, ixN_54, ixN_30, ixN_31, ixN_32, put_same, put_put, true_and, and_true]
  refine ⟨d, rfl, hk, ?_⟩
  cases e : isRow d with
  | true => rw [if_pos e] at h; exact h
  | false => rw [if_neg (by rw [e]; decide)] at h; exact h
/-! ### marks -/
def markF (m : Int) (ns : List Int) : Int := ns.foldl (fun f b => (f * 1000003 + b + 1) % 2305843009213693951) m
theorem markF_snoc (m : Int) (ns : List Int) (b : Int) : markF m (ns ++ [b]) = (markF m ns * 1000003 + b + 1) % 2305843009213693951 := by
  unfold markF
  rw [List.foldl_append]
  rfl
def sp_marked : SpD := fun ds S Q _ => ∃ m ns, ds = [.int m, .tup (List.map Dv.int ns)] ∧ Q (.int (markF m ns)) S
theorem len_marked : ∀ ds S Q X, sp_marked ds S Q X → ds.length = 2 := by rintro _ _ _ _ ⟨_, _, rfl, _⟩; rfl
def r_marked : DS := (dSeq (dAsg (dVar 0) (gN 2))
    (dSeq (dFor (iSeqD (dVar 1)) (gN 3) (dAsg (dOp rdMod (dOp rdAdd (dOp rdAdd (dOp rdMul (dVar 2) (dC (.int 1000003))) (dVar 3)) (dC (.int 1))) (dC (.int 2305843009213693951))) (gN 2)))
    (dRet (dVar 2))))
theorem map_get {α β : Type} {f : α → β} {xs : List α} {i : Nat} {y : β} (h : (xs.map f)[i]? = some y) : ∃ x, xs[i]? = some x ∧ y = f x := by
  rw [List.getElem?_map, Option.map_eq_some_iff] at h
  obtain ⟨x, h1, h2⟩ := h
  exact ⟨x, h1, h2.symm⟩
theorem rd_marked : Rd r_marked 4 sp_marked := by
  rintro ds S Q X ⟨m, ns, rfl, h⟩
  unfold r_marked
  simp only [dSeq, dAsg, dRet, dRetN, dIfS, dNext, dDrop, dRaise, dBreak, dCont, dTest, dOp, dVar, dC, dCB, dCons, dNil, dCall, dAndV, dOrV, dNotV, dAndT, dOrT, dNotT, dIf, dTup, dLst, dSl, oSome, oNone, dNeg, gN, gT, gConsD, gNilD, gSubD, dChain, dPar, dAug, dLc, dFor, dBM, isLst, iSeqD, iR1, iR2, iR3, dYes, rdAdd, rdSub, rdMul, rdDiv, rdMod, rdPow, rdIAdd, rdCmp, rdIsN, isNon, rdEqG, rdIx, rdSet, rdSl, rdLen, rdInt1, rdInt, rdInt2, rdAppend, startN, wipeD, List.map_cons, List.map_nil, List.length_cons, List.length_nil, Nat.zero_add, Nat.sub_self, Nat.reduceAdd, Nat.reduceSub, List.replicate_succ, List.replicate_zero, List.cons_append, List.nil_append, List.append_nil, List.getElem?_cons_zero, List.getElem?_cons_succ, List.set_cons_zero, List.set_cons_succ, Option.some.injEq, exists_eq_left', DEnds.xd, atI_0, atI_1, atI_2, atI_3, atI_4, atI_5, atI_6, atI_7, ixN_50, ixN_51, ixN_52, ixN_53, ixN_54, ixN_30, ixN_31, ixN_32, put_same, put_put, true_and, and_true]
  refine for_go (fun i ρ T => T = S ∧ ∃ y, ρ = [some (.int m), some (.tup (List.map Dv.int ns)), some (.int (markF m (ns.take i))), y]) ⟨rfl, _, rfl⟩ (fun _ _ _ _ _ => trivial) (fun i x ρ T hx hw => ?_) fun ρ T hw => ?_
  · obtain ⟨rfl, y, rfl⟩ := hw
    obtain ⟨b, hb, rfl⟩ := map_get hx
    simp only [dSeq, dAsg, dRet, dRetN, dIfS, dNext, dDrop, dRaise, dBreak, dCont, dTest, dOp, dVar, dC, dCB, dCons, dNil, dCall, dAndV, dOrV, dNotV, dAndT, dOrT, dNotT, dIf, dTup, dLst, dSl, oSome, oNone, dNeg, gN, gT, gConsD, gNilD, gSubD, dChain, dPar, dAug, dLc, dFor, dBM, isLst, iSeqD, iR1, iR2, iR3, dYes, rdAdd, rdSub, rdMul, rdDiv, rdMod, rdPow, rdIAdd, rdCmp, rdIsN, isNon, rdEqG, rdIx, rdSet, rdSl, rdLen, rdInt1, rdInt, rdInt2, rdAppend, startN, wipeD, List.map_cons, List.map_nil, List.length_cons, List.length_nil, Nat.zero_add, Nat.sub_self, Nat.reduceAdd, Nat.reduceSub, List.replicate_succ, List.replicate_zero, List.cons_append, List.nil_append, List.append_nil, List.getElem?_cons_zero, List.getElem?_cons_succ, List.set_cons_zero, List.set_cons_succ, Option.some.injEq, exists_eq_left', DEnds.xd, atI_0, atI_1, atI_2, atI_3, atI_4, atI_5, atI_6, atI_7, ixN_50, ixN_51, ixN_52, ixN_53, ixN_54, ixN_30, ixN_31, ixN_32, put_same, put_put, true_and, and_true]
    refine ⟨mulok_r (by decide) (by decide), by decide, some (.int b), ?_⟩
    rw [List.take_add_one, hb, Option.toList_some, markF_snoc]
  · obtain ⟨rfl, y, rfl⟩ := hw
    simp only [dSeq, dAsg, dRet, dRetN, dIfS, dNext, dDrop, dRaise, dBreak, dCont, dTest, dOp, dVar, dC, dCB, dCons, dNil, dCall, dAndV, dOrV, dNotV, dAndT, dOrT, dNotT, dIf, dTup, dLst, dSl, oSome, oNone, dNeg, gN, gT, gConsD, gNilD, gSubD, dChain, dPar, dAug, dLc, dFor, dBM, isLst, iSeqD, iR1, iR2, iR3, dYes, rdAdd, rdSub, rdMul, rdDiv, rdMod, rdPow, rdIAdd, rdCmp, rdIsN, isNon, rdEqG, rdIx, rdSet, rdSl, rdLen, rdInt1, rdInt, rdInt2, rdAppend, startN, wipeD, List.map_cons, List.map_nil, List.length_cons, List.length_nil, Nat.zero_add, Nat.sub_self, Nat.reduceAdd, Nat.reduceSub, List.replicate_succ, List.replicate_zero, List.cons_append, List.nil_append, List.append_nil, List.getElem?_cons_zero, List.getElem?_cons_succ, List.set_cons_zero, List.set_cons_succ, Option.some.injEq, exists_eq_left', DEnds.xd, atI_0, atI_1, atI_2, atI_3, atI_4, atI_5, atI_6, atI_7, ixN_50, ixN_51, ixN_52, ixN_53, ixN_54, ixN_30, ixN_31, ixN_32, put_same, put_put, true_and, and_true]
    rw [List.length_map, List.take_length]
    exact h
def sp_mark_of : SpD := fun ds S Q _ => ∃ ns, ds = [.tup (List.map Dv.int ns)] ∧ Q (.int (markF 1 ns)) S
theorem len_mark_of : ∀ ds S Q X, sp_mark_of ds S Q X → ds.length = 1 := by rintro _ _ _ _ ⟨_, rfl, _⟩; rfl
def r_mark_of : DS := (dRet (dCall sp_marked (dCons (dC (.int 1)) (dCons (dVar 0) dNil))))
theorem rd_mark_of : Rd r_mark_of 1 sp_mark_of := by
  rintro ds S Q X ⟨ns, rfl, h⟩
  unfold r_mark_of
  simp only [dSeq, dAsg, dRet, dRetN, dIfS, dNext, dDrop, dRaise, dBreak, dCont, dTest, dOp, dVar, dC, dCB, dCons, dNil, dCall, dAndV, dOrV, dNotV, dAndT, dOrT, dNotT, dIf, dTup, dLst, dSl, oSome, oNone, dNeg, gN, gT, gConsD, gNilD, gSubD, dChain, dPar, dAug, dLc, dFor, dBM, isLst, iSeqD, iR1, iR2, iR3, dYes, rdAdd, rdSub, rdMul, rdDiv, rdMod, rdPow, rdIAdd, rdCmp, rdIsN, isNon, rdEqG, rdIx, rdSet, rdSl, rdLen, rdInt1, rdInt, rdInt2, rdAppend, startN, wipeD, List.map_cons, List.map_nil, List.length_cons, List.length_nil, Nat.zero_add, Nat.sub_self, Nat.reduceAdd, Nat.reduceSub, List.replicate_succ, List.replicate_zero, List.cons_append, List.nil_append, List.append_nil, List.getElem?_cons_zero, List.getElem?_cons_succ, List.set_cons_zero, List.set_cons_succ, Option.some.injEq, exists_eq_left', DEnds.xd, atI_0, atI_1, atI_2, atI_3, atI_4, atI_5, atI_6, atI_7, ixN_50, ixN_51, ixN_52, ixN_53, ixN_54, ixN_30, ixN_31, ixN_32, put_same, put_put, true_and, and_true]
  exact ⟨1, ns, rfl, h⟩
end Lw

namespace Lw
open PySem PySem.Spec PyProof.Rows L2 VD
/-! ### the law's hand: [cells, place, great, mixed, count] at a, the cells at c -/
def Hand (S : Sto) (a c : Addr) : Prop := ∃ (i g k n : Int) (cells : List Int), S a = some (.lst [.ref c, .int i, .int g, .int k, .int n]) ∧ S c = some (.lst (List.map Dv.int cells)) ∧ c ≠ a ∧ 0 ≤ i
/-- only the hand has changed -/
structure Hd (a c : Addr) (S S' : Sto) : Prop where
  h : Hand S' a c
  s : ∀ b m, b ≠ a → S b = some m → S' b = some m
section
variable {S S' T U : Sto} {a c p : Addr} {m : MO}
theorem Hd.refl (h : Hand S a c) : Hd a c S S := ⟨h, fun _ _ _ e => e⟩
theorem Hd.trans (h : Hd a c S T) (g : Hd a c T U) : Hd a c S U := ⟨g.h, fun b m hb e => g.s b m hb (h.s b m hb e)⟩
theorem Hand.nea (h : Hand S a c) (hp : S p = none) : p ≠ a := by
  obtain ⟨i, g, k, n, cells, ha, _⟩ := h
  exact ne_of' ha hp
theorem Hand.nec (h : Hand S a c) (hp : S p = none) : p ≠ c := by
  obtain ⟨i, g, k, n, cells, ha, hc, _⟩ := h
  exact ne_of' hc hp
theorem Hand.ca (h : Hand S a c) : c ≠ a := by
  obtain ⟨i, g, k, n, cells, ha, hc, hca, hi⟩ := h
  exact hca
/-- it hangs on two objects alone -/
theorem Hand.cong (h : Hand S a c) (ea : T a = S a) (ec : T c = S c) : Hand T a c := by
  obtain ⟨i, g, k, n, cells, ha, hc, hca, hi⟩ := h
  exact ⟨i, g, k, n, cells, by rw [ea]; exact ha, by rw [ec]; exact hc, hca, hi⟩
theorem Hand.new (h : Hand S a c) (hp : S p = none) : Hand (put S p m) a c := h.cong (put_ne (h.nea hp).symm) (put_ne (h.nec hp).symm)
theorem Hand.upd {i g k n : Int} {cells : List Int} (hc : S c = some (.lst (List.map Dv.int cells))) (hca : c ≠ a) (hi : 0 ≤ i) : Hd a c S (put S a (.lst [.ref c, .int i, .int g, .int k, .int n])) :=
  ⟨⟨i, g, k, n, cells, put_same, by rw [put_ne hca]; exact hc, hca, hi⟩, fun b m hb e => by rw [put_ne hb]; exact e⟩
theorem Hd.new (h0 : Hand S a c) (hp : S p = none) : Hd a c S (put S p m) := ⟨h0.new hp, fun b m' hb e => by rw [put_ne (ne_of e hp)]; exact e⟩
/-- where something new was laid and dropped again -/
theorem Hd.rm (h0 : Hand S a c) (hp : S p = none) (h : Hd a c S S') : Hd a c S (rm S' p) := by
  refine ⟨h.h.cong (rm_ne (h0.nea hp).symm) (rm_ne (h0.nec hp).symm), fun b m hb e => ?_⟩
  rw [rm_ne (ne_of e hp)]
  exact h.s b m hb e
end
def sp__law_draw : SpD := fun ds S Q _ => ∃ a c m, ds = [.ref a, .int m] ∧ Hand S a c ∧ 0 < m ∧ m.natAbs < 2 ^ 8000 ∧ ∀ r S', Hd a c S S' → 0 ≤ r → r < m → Q (.int r) S'
theorem len__law_draw : ∀ ds S Q X, sp__law_draw ds S Q X → ds.length = 2 := by rintro _ _ _ _ ⟨_, _, _, rfl, _⟩; rfl
/-- a comprehension whose element draws: what holds of each item, by place -/
theorem lc_hand {g : DG} {te : DE} {vs : List Nat} {ρ : Rho} {Q : QD} {items : List Dv} {stay : Sto → Prop} {S : Sto} {a c : Addr} (P : Nat → Dv → Prop) (hH : Hand S a c) (hl : items.length ≤ sizeLine)
    (hst : ∀ T, Hd a c S T → stay T)
    (he : ∀ i x, items[i]? = some x → ∀ (p : Addr) (T : Sto) (K : QD), Hd a c S T → S p = none → (∀ y T', P i y → Hd a c T T' → K y T') → g x (wipeD ρ vs) T fun ρ2 S2 => te ρ2 S2 K X0)
    (hQ : ∀ p T acc, S p = none → Hd a c S T → T p = some (.lst acc) → acc.length = items.length → (∀ i y, acc[i]? = some y → P i y) → Q (.ref p) T) : LcGo g dYes te vs ρ Q items stay S := by
  intro p hp
  have hpa := hH.nea hp
  have hpc := hH.nec hp
  refine ⟨fun i T => Hd a c S T ∧ ∃ acc, T p = some (.lst acc) ∧ acc.length = i ∧ ∀ j y, acc[j]? = some y → P j y, ⟨Hd.new hH hp, [], put_same, rfl, fun j y h => by simp at h⟩, fun i T _ h => hst T h.1, fun i x T hx h => ?_, fun T h => ?_⟩
  · obtain ⟨h1, acc, h3, h4, h5⟩ := h
    refine he i x hx p T _ h1 hp fun y T' hy ht => ⟨acc, ht.s p _ hpa h3, ?_, ⟨?_, fun b m n1 e => ?_⟩, acc ++ [y], put_same, by simp [h4], fun j z hz => ?_⟩
    · have := (List.getElem?_eq_some_iff.mp hx).1
      omega
    · exact ht.h.cong (put_ne hpa.symm) (put_ne hpc.symm)
    · rw [put_ne (ne_of e hp)]
      exact ht.s b m n1 (h1.s b m n1 e)
    · by_cases hj : j < acc.length
      · rw [List.getElem?_append_left hj] at hz
        exact h5 j z hz
      · rw [List.getElem?_append_right (by omega)] at hz
        have e : j = i := by
          have := (List.getElem?_eq_some_iff.mp hz).1
          simp at this
          omega
        subst e
        rw [h4, Nat.sub_self] at hz
        cases hz
        exact hy
  · obtain ⟨h1, acc, h3, h4, h5⟩ := h
    exact hQ p T acc hp h1 h3 h4 h5
/-- tuple([..]) of such a comprehension -/
theorem tup_hand {g : DG} {te : DE} {vs : List Nat} {ρ : Rho} {Q : QD} {items : List Dv} {stay : Sto → Prop} {S : Sto} {a c : Addr} (P : Nat → Dv → Prop) (hH : Hand S a c) (hl : items.length ≤ sizeLine)
    (hst : ∀ T, Hd a c S T → stay T)
    (he : ∀ i x, items[i]? = some x → ∀ (p : Addr) (T : Sto) (K : QD), Hd a c S T → S p = none → (∀ y T', P i y → Hd a c T T' → K y T') → g x (wipeD ρ vs) T fun ρ2 S2 => te ρ2 S2 K X0)
    (hQ : ∀ T acc, Hd a c S T → acc.length = items.length → (∀ i y, acc[i]? = some y → P i y) → Q (.tup acc) T) : LcGo g dYes te vs ρ (fun x S2 => rdTuple [x] S2 Q) items stay S := by
  refine lc_hand P hH hl hst he fun p T acc hp h1 h3 h4 h5 => ?_
  unfold rdTuple seqOf
  dsimp only
  rw [h3]
  exact ⟨rm T p, rm_sub T p, hQ _ _ (Hd.rm hH hp h1) h4 h5⟩
/-- items that are ints -/
theorem ints_of {P : Int → Prop} : ∀ {acc : List Dv}, (∀ (i : Nat) y, acc[i]? = some y → ∃ r, y = .int r ∧ P r) → ∃ ns : List Int, acc = List.map Dv.int ns ∧ ∀ n ∈ ns, P n
  | [], _ => ⟨[], rfl, fun _ h => by cases h⟩
  | y :: acc, h => by
    obtain ⟨r, rfl, hr⟩ := h 0 y rfl
    obtain ⟨ns, rfl, hn⟩ := ints_of (P := P) (acc := acc) fun i y hy => h (i + 1) y hy
    exact ⟨r :: ns, rfl, fun n hm => by rcases List.mem_cons.mp hm with rfl | hm; exact hr; exact hn n hm⟩
end Lw

namespace Lw
open PySem PySem.Spec PyProof.Rows L2 VD
/-! ### places, as equations -/
theorem rdIx_tup {xs : List Dv} {i : Int} {S : Sto} {Q : QD} : rdIx (.tup xs) (.int i) S Q = ∃ d, atI xs i = some d ∧ Q d S := rfl
theorem rdIx_rol {xs : List Dv} {i : Int} {S : Sto} {Q : QD} : rdIx (.rol xs) (.int i) S Q = ∃ d, atI xs i = some d ∧ Q d S := rfl
theorem rdIx_ref {xs : List Dv} {a : Addr} {i : Int} {S : Sto} {Q : QD} (h : S a = some (.lst xs)) : rdIx (.ref a) (.int i) S Q = ∃ d, atI xs i = some d ∧ Q d S := by
  unfold rdIx
  dsimp only
  rw [h]
theorem ix_ref {xs : List Dv} {a : Addr} {i : Int} {S : Sto} {Q : QD} {d : Dv} (h : S a = some (.lst xs)) (e : atI xs i = some d) (q : Q d S) : rdIx (.ref a) (.int i) S Q := by
  rw [rdIx_ref h]
  exact ⟨d, e, q⟩
/-! ### the same plain thing -/
def plain : Nat → Dv → Prop
  | 0, _ => False
  | n + 1, d => match d with
    | .non => True
    | .bl _ => True
    | .int _ => True
    | .str _ => True
    | .tup xs => xs.length ≤ sizeLine ∧ ∀ x ∈ xs, plain n x
    | _ => False
def sp__law_is : Nat → SpD
  | 0 => fun _ _ _ _ => False
  | n + 1 => fun ds S Q _ => ∃ d, ds = [d, d] ∧ plain (n + 1) d ∧ Q (.bl true) S
theorem len__law_is : ∀ n ds S Q X, sp__law_is n ds S Q X → ds.length = 2
  | 0, _, _, _, _, h => h.elim
  | _ + 1, _, _, _, _, ⟨_, rfl, _⟩ => rfl
def sp__law_hand : SpD := fun ds S Q _ => ∃ ns : List Int, ds = [.rol (List.map Dv.int ns)] ∧ ns.length ≤ 63 ∧ ∀ a c S', Hand S' a c → Q (.ref a) S'
theorem len__law_hand : ∀ ds S Q X, sp__law_hand ds S Q X → ds.length = 1 := by rintro _ _ _ _ ⟨_, rfl, _⟩; rfl
def rowOk (ns : List Int) : Prop := ns.length ≤ 300000 ∧ ∀ n ∈ ns, 0 ≤ n ∧ n < 256
def inM (b : Int) : Prop := 0 ≤ b ∧ b < 2305843009213693951
def sp_mark (c_NoRow : Addr) : SpD := fun ds S Q _ => ∃ ns, ds = [.tup (List.map Dv.int ns)] ∧ rowOk ns ∧ Q (.int (markF 1 ns)) S
def sp_mark_behind (c_NoNumber c_NoRow : Addr) : SpD := fun ds S Q _ => ∃ b ns, ds = [.int b, .tup (List.map Dv.int ns)] ∧ inM b ∧ rowOk ns ∧ Q (.int (markF b ns)) S
def sp__law_byte : SpD := fun ds S Q _ => ∃ a c, ds = [.ref a] ∧ Hand S a c ∧ ∀ r S', Hd a c S S' → 0 ≤ r → r < 256 → Q (.int r) S'
def sp__law_bytes : SpD := fun ds S Q _ => ∃ a c m, ds = [.ref a, .int m] ∧ Hand S a c ∧ 0 ≤ m ∧ m ≤ 1000 ∧ ∀ ns S', Hd a c S S' → (∀ n ∈ ns, 0 ≤ n ∧ n < 256) → (ns.length : Int) ≤ m → Q (.tup (List.map Dv.int ns)) S'
def sp__law_sum : SpD := fun ds S Q _ => ∃ b ns, ds = [.int b, .tup (List.map Dv.int ns)] ∧ inM b ∧ ns.length ≤ 300000 ∧ Q (.int (markF b ns)) S
theorem len_mark (c : Addr) : ∀ ds S Q X, sp_mark c ds S Q X → ds.length = 1 := by rintro _ _ _ _ ⟨_, rfl, _⟩; rfl
theorem len_mark_behind (c c2 : Addr) : ∀ ds S Q X, sp_mark_behind c c2 ds S Q X → ds.length = 2 := by rintro _ _ _ _ ⟨_, _, rfl, _⟩; rfl
theorem len__law_byte : ∀ ds S Q X, sp__law_byte ds S Q X → ds.length = 1 := by rintro _ _ _ _ ⟨_, _, rfl, _⟩; rfl
theorem len__law_bytes : ∀ ds S Q X, sp__law_bytes ds S Q X → ds.length = 2 := by rintro _ _ _ _ ⟨_, _, _, rfl, _⟩; rfl
theorem len__law_sum : ∀ ds S Q X, sp__law_sum ds S Q X → ds.length = 2 := by rintro _ _ _ _ ⟨_, _, rfl, _⟩; rfl
end Lw

namespace Lw
open PySem PySem.Spec PyProof.Rows L2 VD
/-! ### figures -/
def figF : Nat → Int → List Int
  | 0, n => [n]
  | k + 1, n => if n < 128 then [n] else (n % 128 + 128) :: figF k (n / 128)
def figs (n : Int) : List Int := figF 9 n
/-- the first place under 128 -/
def fnd : Nat → List Int → Option Nat
  | 0, _ => none
  | _ + 1, [] => none
  | k + 1, b :: r => if b < 128 then some 0 else (fnd k r).map (· + 1)
def val : List Int → Int
  | [] => 0
  | b :: r => b % 128 + 128 * val r
def readF (row : List Int) (at_ : Nat) : Dv := match fnd 10 (row.drop at_) with
  | none => .non
  | some i => if (0 < i ∧ (row.drop at_)[i]? = some 0) ∨ 18446744073709551616 ≤ val ((row.drop at_).take (i + 1)) then .non else .tup [.int (val ((row.drop at_).take (i + 1))), .int ((at_ + i : Nat) + 1)]
def unfF (n : Int) : Int := if n % 2 = 0 then n / 2 else -(n + 1) / 2
def foldF (n : Int) : Int := if 0 ≤ n then 2 * n else -2 * n - 1
def inS (n : Int) : Prop := -4611686018427387904 ≤ n ∧ n ≤ 4611686018427387904
instance (n : Int) : Decidable (inS n) := by unfold inS; infer_instance
def readS (row : List Int) (at_ : Nat) : Dv := match readF row at_ with
  | .tup [.int v, b] => if inS (unfF v) then .tup [.int (unfF v), b] else .non
  | _ => .non
theorem pow7 (k : Nat) : (128 : Int) ^ (k + 1) = 128 * 128 ^ k := by rw [Int.pow_succ, Int.mul_comm]
theorem val_snoc : ∀ (xs : List Int) (b : Int), val (xs ++ [b]) = val xs + 128 ^ xs.length * (b % 128)
  | [], b => by simp [val]
  | x :: xs, b => by
    show x % 128 + 128 * val (xs ++ [b]) = x % 128 + 128 * val xs + 128 ^ (xs.length + 1) * (b % 128)
    rw [val_snoc xs b, pow7, Int.mul_add, Int.mul_assoc, Int.add_assoc]
/-- the search goes on from a place whose ahead are all great -/
theorem fnd_on : ∀ (i k : Nat) (l : List Int), (∀ j, j < i → ∃ b, l[j]? = some b ∧ ¬ b < 128) → fnd (k + i) l = (fnd k (l.drop i)).map (· + i)
  | 0, k, l, _ => by simp
  | i + 1, k, l, h => by
    obtain ⟨b, hb, hb2⟩ := h 0 (by omega)
    cases l with
    | nil => simp at hb
    | cons c r =>
      simp at hb
      subst hb
      show fnd (k + i + 1) (c :: r) = _
      rw [fnd, if_neg hb2, fnd_on i k r (fun j hj => by have := h (j + 1) (by omega); simpa using this)]
      rw [List.drop_succ_cons, Option.map_map]
      rfl
theorem val_in : ∀ (xs : List Int), 0 ≤ val xs ∧ val xs < 128 ^ xs.length
  | [] => by decide
  | x :: xs => by
    have h := val_in xs
    show 0 ≤ x % 128 + 128 * val xs ∧ x % 128 + 128 * val xs < 128 ^ (xs.length + 1)
    rw [pow7]
    omega
theorem figF_len : ∀ (k : Nat) (n : Int), 1 ≤ (figF k n).length ∧ (figF k n).length ≤ k + 1
  | 0, n => by simp [figF]
  | k + 1, n => by
    unfold figF
    split
    · simp
    · have := figF_len k (n / 128)
      simp
      omega
theorem figF_ok : ∀ (k : Nat) (n : Int), 0 ≤ n → n < 128 ^ (k + 1) → ∀ b ∈ figF k n, 0 ≤ b ∧ b < 256
  | 0, n, h0, h1 => by
    intro b hb
    simp [figF] at hb h1
    omega
  | k + 1, n, h0, h1 => by
    intro b hb
    unfold figF at hb
    split at hb
    · simp at hb; omega
    · rcases List.mem_cons.mp hb with rfl | hb
      · omega
      · exact figF_ok k (n / 128) (by omega) (by rw [pow7] at h1; omega) b hb
theorem figF_val : ∀ (k : Nat) (n : Int), 0 ≤ n → n < 128 ^ (k + 1) → val (figF k n) = n
  | 0, n, h0, h1 => by
    simp [figF, val] at h1 ⊢
    omega
  | k + 1, n, h0, h1 => by
    unfold figF
    split
    · simp [val]; omega
    · show (n % 128 + 128) % 128 + 128 * val (figF k (n / 128)) = n
      rw [figF_val k (n / 128) (by omega) (by rw [pow7] at h1; omega)]
      omega
theorem figF_fnd : ∀ (k m : Nat) (n : Int) (t : List Int), 0 ≤ n → n < 128 ^ (k + 1) → k < m → fnd m (figF k n ++ t) = some ((figF k n).length - 1)
  | 0, m + 1, n, t, h0, h1, _ => by
    simp [figF] at h1 ⊢
    rw [fnd, if_pos h1]
  | k + 1, m + 1, n, t, h0, h1, hm => by
    unfold figF
    split
    · rename_i h
      show fnd (m + 1) (n :: t) = _
      rw [fnd, if_pos h]
      rfl
    · show fnd (m + 1) ((n % 128 + 128) :: (figF k (n / 128) ++ t)) = _
      rw [fnd, if_neg (by omega), figF_fnd k m (n / 128) t (by omega) (by rw [pow7] at h1; omega) (by omega)]
      have := figF_len k (n / 128)
      simp
      omega
theorem figF_last : ∀ (k : Nat) (n : Int), 0 < n → n < 128 ^ (k + 1) → (figF k n)[(figF k n).length - 1]? ≠ some 0
  | 0, n, h0, h1 => by
    simp [figF]
    omega
  | k + 1, n, h0, h1 => by
    unfold figF
    split
    · simp; omega
    · have h2 := figF_last k (n / 128) (by omega) (by rw [pow7] at h1; omega)
      have h3 := figF_len k (n / 128)
      intro e
      apply h2
      rw [← e]
      rw [List.length_cons, show (figF k (n / 128)).length + 1 - 1 = ((figF k (n / 128)).length - 1) + 1 by omega, List.getElem?_cons_succ]
theorem readF_figs (pre tail : List Int) (n : Int) (h0 : 0 ≤ n) (h1 : n < 18446744073709551616) : readF (pre ++ figs n ++ tail) pre.length = .tup [.int n, .int ((pre.length + (figs n).length : Nat))] := by
  have hb : n < 128 ^ (9 + 1) := by
    have : (128 : Int) ^ (9 + 1) = 1180591620717411303424 := by decide
    omega
  have hl := figF_len 9 n
  unfold readF
  rw [List.append_assoc, List.drop_left]
  unfold figs
  rw [figF_fnd 9 10 n tail h0 hb (by decide)]
  dsimp only
  rw [show (figF 9 n).length - 1 + 1 = (figF 9 n).length by omega, List.take_left, figF_val 9 n h0 hb]
  rw [if_neg]
  · have e : ((pre.length + ((figF 9 n).length - 1) : Nat) : Int) + 1 = ((pre.length + (figF 9 n).length : Nat) : Int) := by omega
    rw [e]
  · rintro (⟨h2, h3⟩ | h2)
    · rw [List.getElem?_append_left (by omega)] at h3
      by_cases hn : n = 0
      · subst hn
        simp [figF] at h2
      · exact figF_last 9 n (by omega) hb h3
    · omega
theorem unf_fold {n : Int} : unfF (foldF n) = n := by
  unfold unfF foldF
  split <;> split <;> omega
theorem fold_unf {n : Int} (h : 0 ≤ n) : foldF (unfF n) = n := by
  unfold unfF foldF
  split <;> split <;> omega
theorem unf_in {n : Int} (h : 0 ≤ n) : inS (unfF n) ↔ n ≤ 9223372036854775808 := by
  unfold inS unfF
  split <;> omega
end Lw

namespace Lw
open PySem PySem.Spec PyProof.Rows L2 VD
/-! ### changes -/
/-- a number read at a place: its value, the place behind -/
def rdO (row : List Int) (i : Nat) : Option (Nat × Nat) := match fnd 10 (row.drop i) with
  | none => none
  | some j => if (0 < j ∧ (row.drop i)[j]? = some 0) ∨ 18446744073709551616 ≤ val ((row.drop i).take (j + 1)) then none else some ((val ((row.drop i).take (j + 1))).toNat, i + j + 1)
theorem readF_rdO (row : List Int) (i : Nat) : readF row i = match rdO row i with
    | none => .non
    | some (v, b) => .tup [.int (v : Int), .int (b : Int)] := by
  unfold readF rdO
  cases fnd 10 (row.drop i) with
  | none => rfl
  | some j =>
    dsimp only
    split
    · rfl
    · dsimp only
      rw [Int.toNat_of_nonneg (val_in _).1]
      rfl
theorem rdO_behind {row : List Int} {i v b : Nat} (h : rdO row i = some (v, b)) : i < b ∧ b ≤ row.length := by
  unfold rdO at h
  split at h
  · cases h
  · rename_i j hj
    split at h
    · cases h
    · cases h
      refine ⟨by omega, ?_⟩
      have : j < (row.drop i).length := by
        have key : ∀ (k : Nat) (l : List Int) (j : Nat), fnd k l = some j → j < l.length := by
          intro k
          induction k with
          | zero => intro l j h; cases h
          | succ k ih =>
            intro l j h
            cases l with
            | nil => cases h
            | cons b r =>
              unfold fnd at h
              split at h
              · cases h; simp
              · rw [Option.map_eq_some_iff] at h
                obtain ⟨m, h1, rfl⟩ := h
                have := ih r m h1
                simp
                omega
        exact key 10 _ j hj
      rw [List.length_drop] at this
      omega
theorem rdO_figs (pre tail : List Int) (n : Nat) (h : n < 18446744073709551616) : rdO (pre ++ figs n ++ tail) pre.length = some (n, pre.length + (figs n).length) := by
  have e := readF_figs pre tail n (by omega) (by omega)
  rw [readF_rdO] at e
  cases h1 : rdO (pre ++ figs n ++ tail) pre.length with
  | none => rw [h1] at e; cases e
  | some p =>
    obtain ⟨v, b⟩ := p
    rw [h1] at e
    simp at e
    rw [show v = n by omega, show b = pre.length + (figs n).length by omega]
/-- the part at a place: kind, many, behind -/
def partO (ch : List Int) (i : Nat) : Option (Nat × Nat × Nat) := match rdO ch i with
  | none => none
  | some (v, b) => if v / 3 = 0 ∨ (v % 3 = 2 ∧ ch.length < b + v / 3) then none else some (v % 3, v / 3, b)
/-- what a change makes, from a place on: what it is, or the place of the wrong part -/
def resF : Nat → List Int → List Int → List Int → Nat → Nat → Option (List Int) × Nat
  | 0, _, _, _, _, i => (none, i)
  | k + 1, one, ch, found, here, i => if i = ch.length then (some found, i) else match partO ch i with
    | none => (none, i)
    | some (kind, many, b) => if kind = 2 then resF k one ch (found ++ (ch.drop b).take many) here (b + many)
      else if one.length < here + many then (none, i)
      else resF k one ch (if kind = 0 then found ++ (one.drop here).take many else found) (here + many) b
def res (one ch : List Int) : Option (List Int) × Nat := resF (ch.length + 1) one ch [] 0 0
theorem partO_ok {ch : List Int} {i kind many b : Nat} (h : partO ch i = some (kind, many, b)) : i < b ∧ b ≤ ch.length ∧ kind < 3 ∧ 1 ≤ many ∧ (kind = 2 → b + many ≤ ch.length) := by
  unfold partO at h
  split at h
  · cases h
  · rename_i v c hv
    have := rdO_behind hv
    split at h
    · cases h
    · cases h
      rename_i hn
      have h1 : v / 3 ≠ 0 := fun z => hn (.inl z)
      refine ⟨this.1, this.2, Nat.mod_lt _ (by decide), by omega, fun h2 => ?_⟩
      have := fun z => hn (.inr ⟨h2, z⟩)
      omega
/-- enough steps are enough -/
theorem resF_more : ∀ (k : Nat) (one ch found : List Int) (here i : Nat), i ≤ ch.length → ch.length - i < k → resF (k + 1) one ch found here i = resF k one ch found here i
  | 0, _, _, _, _, _, _, h => by omega
  | k + 1, one, ch, found, here, i, hi, hk => by
    rw [resF, resF]
    by_cases h1 : i = ch.length
    · rw [if_pos h1, if_pos h1]
    · rw [if_neg h1, if_neg h1]
      cases hp : partO ch i with
      | none => rfl
      | some p =>
        obtain ⟨kind, many, b⟩ := p
        have hb := partO_ok hp
        dsimp only
        by_cases h2 : kind = 2
        · rw [if_pos h2, if_pos h2]
          have := hb.2.2.2.2 h2
          exact resF_more k one ch _ _ _ (by omega) (by omega)
        · rw [if_neg h2, if_neg h2]
          by_cases h3 : one.length < here + many
          · rw [if_pos h3, if_pos h3]
          · rw [if_neg h3, if_neg h3]
            exact resF_more k one ch _ _ _ hb.2.1 (by omega)
end Lw

namespace Lw
open PySem PySem.Spec PyProof.Rows L2 VD
/-- a row that is short enough for all that is done here -/
def sr (xs : List Int) : Prop := xs.length ≤ 200000 ∧ ∀ n ∈ xs, 0 ≤ n ∧ n < 256
def sp_figures_of : SpD := fun ds S Q _ => ∃ n, ds = [.int n] ∧ 0 ≤ n ∧ n < 18446744073709551616 ∧ Q (.tup (List.map Dv.int (figs n))) S
def RA (ds : List Dv) (xs : List Int) (i : Nat) : Prop := ds = [.tup (List.map Dv.int xs), .int i] ∧ rowOk xs ∧ i ≤ xs.length
def sp_number_at : SpD := fun ds S Q _ => ∃ xs i, RA ds xs i ∧ Q (readF xs i) S
def partD : Option (Nat × Nat × Nat) → Dv
  | none => .non
  | some (k, m, b) => .tup [.int (k : Int), .int (m : Int), .int (b : Int)]
def sp_part_at : SpD := fun ds S Q _ => ∃ xs i, RA ds xs i ∧ Q (partD (partO xs i)) S
def R2 (ds : List Dv) (xs ys : List Int) : Prop := ds = [.tup (List.map Dv.int xs), .tup (List.map Dv.int ys)] ∧ sr xs ∧ sr ys
def resD : Option (List Int) × Nat → Dv
  | (some l, _) => .tup [.tup (List.map Dv.int l), .non]
  | (none, p) => .tup [.non, .int (p : Int)]
def sp_changed_or_wrong : SpD := fun ds S Q _ => ∃ xs ys, R2 ds xs ys ∧ ∀ S', VD.Sub S S' → Q (resD (res xs ys)) S'
def sp_changed (c_NoRow : Addr) (c_BadChange : Addr) : SpD := fun ds S Q X => ∃ xs ys, R2 ds xs ys ∧ match res xs ys with
  | (some l, _) => ∀ S', VD.Sub S S' → Q (.tup (List.map Dv.int l)) S'
  | (none, p) => ∀ S' dx, VD.Sub S S' → S' dx = none → X (.ref c_BadChange) (some dx) (put S' dx (.xd [(Str.ofString "place", .int (p : Int))]))
/-- how many signs two rows begin with in common -/
def comB : List Int → List Int → Nat
  | x :: xs, y :: ys => if x = y then comB xs ys + 1 else 0
  | _, _ => 0
/-- how many of the last ones, at most so many, are the same -/
def comE (xs ys : List Int) (most : Nat) : Nat := comB (xs.reverse.take most) (ys.reverse.take most)
def partR (kind many : Nat) : List Int := if 0 < many then figs ((3 * many + kind : Nat) : Int) else []
def chgF (xs ys : List Int) : List Int :=
  let b0 := comB xs ys
  let e0 := comE xs ys (min xs.length ys.length - b0)
  let b := if b0 < 8 then 0 else b0
  let e := if e0 < 8 then 0 else e0
  let mid := (ys.drop b).take (ys.length - e - b)
  let out := if 0 < e then xs.length - b - e else 0
  partR 0 b ++ partR 1 out ++ partR 2 mid.length ++ mid ++ partR 0 e
def sp_common_begin : SpD := fun ds S Q _ => ∃ xs ys, R2 ds xs ys ∧ Q (.int (comB xs ys : Int)) S
def sp_common_end : SpD := fun ds S Q _ => ∃ xs ys m, ds = [.tup (List.map Dv.int xs), .tup (List.map Dv.int ys), .int (m : Nat)] ∧ sr xs ∧ sr ys ∧ m ≤ xs.length ∧ m ≤ ys.length ∧ Q (.int (comE xs ys m : Int)) S
def sp_part_row : SpD := fun ds S Q _ => ∃ k m : Nat, ds = [.int (k : Int), .int (m : Int)] ∧ k < 3 ∧ m ≤ 1000000 ∧ Q (.tup (List.map Dv.int (partR k m))) S
def sp_change_of : SpD := fun ds S Q _ => ∃ xs ys, R2 ds xs ys ∧ Q (.tup (List.map Dv.int (chgF xs ys))) S
def sp_change (c_NoRow : Addr) : SpD := fun ds S Q _ => ∃ xs ys, R2 ds xs ys ∧ Q (.tup (List.map Dv.int (chgF xs ys))) S
/-- the third is a row, or a thing that is none -/
def sp_is_change (c_NoRow : Addr) : SpD := fun ds S Q _ => ∃ xs ys d, ds = [.tup (List.map Dv.int xs), .tup (List.map Dv.int ys), d] ∧ sr xs ∧ sr ys ∧ knownL S d ∧
  ((isRow d = false ∧ Q (.bl false) S) ∨ ∃ zs, d = .tup (List.map Dv.int zs) ∧ sr zs ∧ ∀ S', VD.Sub S S' → Q (.bl (decide ((res xs zs).1 = some ys))) S')
theorem len_figures_of : ∀ ds S Q X, sp_figures_of ds S Q X → ds.length = 1 := by rintro _ _ _ _ ⟨_, rfl, _⟩; rfl
theorem len_number_at : ∀ ds S Q X, sp_number_at ds S Q X → ds.length = 2 := by rintro _ _ _ _ ⟨_, _, ⟨rfl, _⟩, _⟩; rfl
theorem len_part_at : ∀ ds S Q X, sp_part_at ds S Q X → ds.length = 2 := by rintro _ _ _ _ ⟨_, _, ⟨rfl, _⟩, _⟩; rfl
theorem len_changed_or_wrong : ∀ ds S Q X, sp_changed_or_wrong ds S Q X → ds.length = 2 := by rintro _ _ _ _ ⟨_, _, ⟨rfl, _⟩, _⟩; rfl
theorem len_changed (c d : Addr) : ∀ ds S Q X, sp_changed c d ds S Q X → ds.length = 2 := by rintro _ _ _ _ ⟨_, _, ⟨rfl, _⟩, _⟩; rfl
theorem len_common_begin : ∀ ds S Q X, sp_common_begin ds S Q X → ds.length = 2 := by rintro _ _ _ _ ⟨_, _, ⟨rfl, _⟩, _⟩; rfl
theorem len_common_end : ∀ ds S Q X, sp_common_end ds S Q X → ds.length = 3 := by rintro _ _ _ _ ⟨_, _, _, rfl, _⟩; rfl
theorem len_part_row : ∀ ds S Q X, sp_part_row ds S Q X → ds.length = 2 := by rintro _ _ _ _ ⟨_, _, rfl, _⟩; rfl
theorem len_change_of : ∀ ds S Q X, sp_change_of ds S Q X → ds.length = 2 := by rintro _ _ _ _ ⟨_, _, ⟨rfl, _⟩, _⟩; rfl
theorem len_change (c : Addr) : ∀ ds S Q X, sp_change c ds S Q X → ds.length = 2 := by rintro _ _ _ _ ⟨_, _, ⟨rfl, _⟩, _⟩; rfl
theorem len_is_change (c : Addr) : ∀ ds S Q X, sp_is_change c ds S Q X → ds.length = 3 := by rintro _ _ _ _ ⟨_, _, _, rfl, _⟩; rfl
/-! ### the law's own -/
def becD : Option (List Int) × Nat → Dv
  | (some l, _) => .tup [.tup (List.map Dv.int l), .int (-1)]
  | (none, p) => .tup [.non, .int (p : Int)]
def toldC : Option (List Int) × Nat → Dv
  | (some l, _) => .tup [.str (Str.ofString "told"), .tup (List.map Dv.int l)]
  | (none, p) => .tup [.str (Str.ofString "bad"), .int (p : Int)]
/-- bytes, at most so many -/
def okR (k : Nat) (xs : List Int) : Prop := xs.length ≤ k ∧ ∀ n ∈ xs, 0 ≤ n ∧ n < 256
def sp__law_deep : SpD := fun ds S Q _ => ∃ a c, ds = [.ref a] ∧ Hand S a c ∧ ∀ d S', Hd a c S S' → (∀ S2, Hd a c S' S2 → knownL S2 d) → isRow d = false → Q d S'
def sp__law_whole : SpD := sp_figures_of
def sp__law_read : SpD := sp_number_at
def sp__law_spoilt : SpD := fun ds S Q _ => ∃ a c xs, ds = [.ref a, .tup (List.map Dv.int xs)] ∧ Hand S a c ∧ okR 1000 xs ∧ ∀ ys S', Hd a c S S' → okR 1010 ys → Q (.tup (List.map Dv.int ys)) S'
def sp__law_become : SpD := fun ds S Q _ => ∃ xs ys, R2 ds xs ys ∧ ∀ S', VD.Sub S S' → Q (becD (res xs ys)) S'
def sp__law_changed_told (c_WorldError : Addr) (c_NoRow : Addr) (c_BadChange : Addr) : SpD := fun ds S Q _ => ∃ xs ys, R2 ds xs ys ∧ ∀ S', VD.Sub S S' → Q (toldC (res xs ys)) S'
def sp__law_is_told (c_WorldError : Addr) (c_NoRow : Addr) (c_BadChange : Addr) : SpD := fun ds S Q _ => ∃ xs ys zs, ds = [.tup (List.map Dv.int xs), .tup (List.map Dv.int ys), .tup (List.map Dv.int zs)] ∧ sr xs ∧ sr ys ∧ sr zs ∧ ∀ S', VD.Sub S S' → Q (.bl true) S'
def sp__law_drawn_change : SpD := fun ds S Q _ => ∃ a c xs, ds = [.ref a, .tup (List.map Dv.int xs)] ∧ Hand S a c ∧ okR 300 xs ∧ ∀ ys S', Hd a c S S' → okR 1000 ys → Q (.tup (List.map Dv.int ys)) S'
def sp__law_spliced : SpD := fun ds S Q _ => ∃ a c xs, ds = [.ref a, .tup (List.map Dv.int xs)] ∧ Hand S a c ∧ okR 240 xs ∧ ∀ ys S', Hd a c S S' → okR 300 ys → Q (.tup (List.map Dv.int ys)) S'
def sp__law_is_path (c_NoRow : Addr) (c_BadChange : Addr) : SpD := fun ds S Q _ => ∃ xs ys, ds = [.tup (List.map Dv.int xs), .tup (List.map Dv.int ys)] ∧ okR 300 xs ∧ okR 300 ys ∧ ∀ S', VD.Sub S S' → Q (.bl true) S'
theorem len__law_deep : ∀ ds S Q X, sp__law_deep ds S Q X → ds.length = 1 := by rintro _ _ _ _ ⟨_, _, rfl, _⟩; rfl
theorem len__law_whole : ∀ ds S Q X, sp__law_whole ds S Q X → ds.length = 1 := len_figures_of
theorem len__law_read : ∀ ds S Q X, sp__law_read ds S Q X → ds.length = 2 := len_number_at
theorem len__law_spoilt : ∀ ds S Q X, sp__law_spoilt ds S Q X → ds.length = 2 := by rintro _ _ _ _ ⟨_, _, _, rfl, _⟩; rfl
theorem len__law_become : ∀ ds S Q X, sp__law_become ds S Q X → ds.length = 2 := by rintro _ _ _ _ ⟨_, _, ⟨rfl, _⟩, _⟩; rfl
theorem len__law_changed_told (c d e : Addr) : ∀ ds S Q X, sp__law_changed_told c d e ds S Q X → ds.length = 2 := by rintro _ _ _ _ ⟨_, _, ⟨rfl, _⟩, _⟩; rfl
theorem len__law_is_told (c d e : Addr) : ∀ ds S Q X, sp__law_is_told c d e ds S Q X → ds.length = 3 := by rintro _ _ _ _ ⟨_, _, _, rfl, _⟩; rfl
theorem len__law_drawn_change : ∀ ds S Q X, sp__law_drawn_change ds S Q X → ds.length = 2 := by rintro _ _ _ _ ⟨_, _, _, rfl, _⟩; rfl
theorem len__law_spliced : ∀ ds S Q X, sp__law_spliced ds S Q X → ds.length = 2 := by rintro _ _ _ _ ⟨_, _, _, rfl, _⟩; rfl
theorem len__law_is_path (c d : Addr) : ∀ ds S Q X, sp__law_is_path c d ds S Q X → ds.length = 2 := by rintro _ _ _ _ ⟨_, _, rfl, _⟩; rfl
theorem len_law (c d e : Addr) : ∀ ds S Q X, spLaw ds S Q X → ds.length = 1 := by rintro _ _ _ _ ⟨_, rfl, _⟩; rfl
/-! readings, printed by gen.py from the law k25 -/
structure Ad where
  WorldError : Addr
  NoRow : Addr
  BadChange : Addr
--figures_of
def r_figures_of : DS := (dSeq (dAsg (dLst dNil) (gN 1))
    (dSeq (dAsg (dVar 0) (gN 2))
    (dSeq (dWhile (dTest (dOp rdGe (dVar 2) (dC (.int 128)))) (dSeq (dDrop (dBM rdAppend (dVar 1) (dCons (dOp rdAdd (dOp rdMod (dVar 2) (dC (.int 128))) (dC (.int 128))) dNil)))
    (dAsg (dOp rdDiv (dVar 2) (dC (.int 128))) (gN 2))))
    (dRet (dOp rdAdd (dCB rdTuple (dCons (dVar 1) dNil)) (dTup (dCons (dVar 2) dNil)))))))
--number_at
def r_number_at : DS := (dSeq (dAsg (dC (.int 0)) (gN 2))
    (dSeq (dAsg (dC (.int 1)) (gN 3))
    (dSeq (dFor (iR2 (dCons (dVar 1) (dCons (dCB (rdInt2 fun i j => .int (if j < i then j else i)) (dCons (dCB rdLen (dCons (dVar 0) dNil)) (dCons (dOp rdAdd (dVar 1) (dC (.int 10))) dNil))) dNil))) (gN 4) (dSeq (dAug 2 rdIAdd (dOp rdMul (dOp rdMod (dOp rdIx (dVar 0) (dVar 4)) (dC (.int 128))) (dVar 3)))
    (dSeq (dAsg (dOp rdMul (dVar 3) (dC (.int 128))) (gN 3))
    (dIfS (dTest (dOp rdLt (dOp rdIx (dVar 0) (dVar 4)) (dC (.int 128)))) (dSeq (dAsg (dAndV (dOp rdEq (dOp rdIx (dVar 0) (dVar 4)) (dC (.int 0))) (dOp rdGt (dVar 4) (dVar 1))) (gN 5))
    (dRet (dIf (dOrT (dTest (dVar 5)) (dTest (dOp rdGe (dVar 2) (dC (.int 18446744073709551616))))) (dC .non) (dTup (dCons (dVar 2) (dCons (dOp rdAdd (dVar 4) (dC (.int 1))) dNil)))))) dNext))))
    (dRet (dC .non)))))
--part_at
def r_part_at : DS := (dSeq (dAsg (dCall sp_number_at (dCons (dVar 0) (dCons (dVar 1) dNil))) (gN 2))
    (dSeq (dIfS (dTest (dOp (rdIsN fun b => b) (dVar 2) (dC .non))) (dRet (dC .non)) dNext)
    (dSeq (dAsg (dVar 2) (gT 2 (gConsD (gN 3) (gConsD (gN 4) gNilD))))
    (dSeq (dPar 5 6 (dCons (dOp rdMod (dVar 3) (dC (.int 3))) (dCons (dOp rdDiv (dVar 3) (dC (.int 3))) dNil)))
    (dSeq (dIfS (dOrT (dTest (dOp rdEq (dVar 6) (dC (.int 0)))) (dAndT (dTest (dOp rdEq (dVar 5) (dC (.int 2)))) (dTest (dOp rdGt (dOp rdAdd (dVar 4) (dVar 6)) (dCB rdLen (dCons (dVar 0) dNil)))))) (dRet (dC .non)) dNext)
    (dRet (dTup (dCons (dVar 5) (dCons (dVar 6) (dCons (dVar 4) dNil))))))))))
--changed_or_wrong
def r_changed_or_wrong : DS := (dSeq (dAsg (dLst dNil) (gN 2))
    (dSeq (dAsg (dC (.int 0)) (gN 3))
    (dSeq (dAsg (dC (.int 0)) (gN 4))
    (dSeq (dWhile (dTest (dOp rdLt (dVar 4) (dCB rdLen (dCons (dVar 1) dNil)))) (dSeq (dAsg (dCall sp_part_at (dCons (dVar 1) (dCons (dVar 4) dNil))) (gN 5))
    (dSeq (dIfS (dOrT (dTest (dOp (rdIsN fun b => b) (dVar 5) (dC .non))) (dAndT (dTest (dOp rdNe (dOp rdIx (dVar 5) (dC (.int 0))) (dC (.int 2)))) (dTest (dOp rdGt (dOp rdAdd (dVar 3) (dOp rdIx (dVar 5) (dC (.int 1)))) (dCB rdLen (dCons (dVar 0) dNil)))))) (dRet (dTup (dCons (dC .non) (dCons (dVar 4) dNil)))) dNext)
    (dSeq (dAsg (dVar 5) (gT 3 (gConsD (gN 6) (gConsD (gN 7) (gConsD (gN 8) gNilD)))))
    (dSeq (dIfS (dTest (dOp rdEq (dVar 6) (dC (.int 0)))) (dDrop (dBM rdExtend (dVar 2) (dCons (dSl (dVar 0) (oSome (dVar 3)) (oSome (dOp rdAdd (dVar 3) (dVar 7)))) dNil))) dNext)
    (dSeq (dIfS (dTest (dOp rdEq (dVar 6) (dC (.int 2)))) (dSeq (dDrop (dBM rdExtend (dVar 2) (dCons (dSl (dVar 1) (oSome (dVar 8)) (oSome (dOp rdAdd (dVar 8) (dVar 7)))) dNil)))
    (dAug 8 rdIAdd (dVar 7))) (dAug 3 rdIAdd (dVar 7)))
    (dAsg (dVar 8) (gN 4))))))))
    (dRet (dTup (dCons (dCB rdTuple (dCons (dVar 2) dNil)) (dCons (dC .non) dNil))))))))
--changed
def r_changed (c_NoRow : Addr) (c_BadChange : Addr) : DS := (dSeq (dDrop (dCall (sp_check_row c_NoRow) (dCons (dVar 0) dNil)))
    (dSeq (dDrop (dCall (sp_check_row c_NoRow) (dCons (dVar 1) dNil)))
    (dSeq (dAsg (dCall sp_changed_or_wrong (dCons (dVar 0) (dCons (dVar 1) dNil))) (gT 2 (gConsD (gN 2) (gConsD (gN 3) gNilD))))
    (dSeq (dIfS (dTest (dOp (rdIsN fun b => !b) (dVar 3) (dC .non))) (dRaiseF (.ref c_BadChange) (Str.ofString "place") (dCons (dVar 3) dNil)) dNext)
    (dRet (dVar 2))))))
--common_begin
def r_common_begin : DS := (dSeq (dAsg (dC (.int 0)) (gN 2))
    (dSeq (dWhile (dAndT (dTest (dOp rdLt (dVar 2) (dCB (rdInt2 fun i j => .int (if j < i then j else i)) (dCons (dCB rdLen (dCons (dVar 0) dNil)) (dCons (dCB rdLen (dCons (dVar 1) dNil)) dNil))))) (dTest (dOp rdEq (dOp rdIx (dVar 0) (dVar 2)) (dOp rdIx (dVar 1) (dVar 2))))) (dAug 2 rdIAdd (dC (.int 1))))
    (dRet (dVar 2))))
--common_end
def r_common_end : DS := (dSeq (dAsg (dC (.int 0)) (gN 3))
    (dSeq (dWhile (dAndT (dTest (dOp rdLt (dVar 3) (dVar 2))) (dTest (dOp rdEq (dOp rdIx (dVar 0) (dOp rdSub (dOp rdSub (dCB rdLen (dCons (dVar 0) dNil)) (dC (.int 1))) (dVar 3))) (dOp rdIx (dVar 1) (dOp rdSub (dOp rdSub (dCB rdLen (dCons (dVar 1) dNil)) (dC (.int 1))) (dVar 3)))))) (dAug 3 rdIAdd (dC (.int 1))))
    (dRet (dVar 3))))
--part_row
def r_part_row : DS := (dRet (dIf (dTest (dOp rdGt (dVar 1) (dC (.int 0)))) (dCall sp_figures_of (dCons (dOp rdAdd (dOp rdMul (dC (.int 3)) (dVar 1)) (dVar 0)) dNil)) (dTup dNil)))
--change_of
def r_change_of : DS := (dSeq (dAsg (dCall sp_common_begin (dCons (dVar 0) (dCons (dVar 1) dNil))) (gN 2))
    (dSeq (dAsg (dCall sp_common_end (dCons (dVar 0) (dCons (dVar 1) (dCons (dOp rdSub (dCB (rdInt2 fun i j => .int (if j < i then j else i)) (dCons (dCB rdLen (dCons (dVar 0) dNil)) (dCons (dCB rdLen (dCons (dVar 1) dNil)) dNil))) (dVar 2)) dNil)))) (gN 3))
    (dSeq (dIfS (dTest (dOp rdLt (dVar 2) (dC (.int 8)))) (dAsg (dC (.int 0)) (gN 2)) dNext)
    (dSeq (dIfS (dTest (dOp rdLt (dVar 3) (dC (.int 8)))) (dAsg (dC (.int 0)) (gN 3)) dNext)
    (dSeq (dAsg (dSl (dVar 1) (oSome (dVar 2)) (oSome (dOp rdSub (dCB rdLen (dCons (dVar 1) dNil)) (dVar 3)))) (gN 4))
    (dSeq (dAsg (dIf (dTest (dOp rdGt (dVar 3) (dC (.int 0)))) (dOp rdSub (dOp rdSub (dCB rdLen (dCons (dVar 0) dNil)) (dVar 2)) (dVar 3)) (dC (.int 0))) (gN 5))
    (dSeq (dAsg (dOp rdAdd (dCall sp_part_row (dCons (dC (.int 0)) (dCons (dVar 2) dNil))) (dCall sp_part_row (dCons (dC (.int 1)) (dCons (dVar 5) dNil)))) (gN 6))
    (dRet (dOp rdAdd (dOp rdAdd (dOp rdAdd (dVar 6) (dCall sp_part_row (dCons (dC (.int 2)) (dCons (dCB rdLen (dCons (dVar 4) dNil)) dNil)))) (dVar 4)) (dCall sp_part_row (dCons (dC (.int 0)) (dCons (dVar 3) dNil))))))))))))
--change
def r_change (c_NoRow : Addr) : DS := (dSeq (dDrop (dCall (sp_check_row c_NoRow) (dCons (dVar 0) dNil)))
    (dSeq (dDrop (dCall (sp_check_row c_NoRow) (dCons (dVar 1) dNil)))
    (dRet (dCall sp_change_of (dCons (dVar 0) (dCons (dVar 1) dNil))))))
--is_change
def r_is_change (c_NoRow : Addr) : DS := (dSeq (dDrop (dCall (sp_check_row c_NoRow) (dCons (dVar 0) dNil)))
    (dSeq (dDrop (dCall (sp_check_row c_NoRow) (dCons (dVar 1) dNil)))
    (dRet (dAndV (dCall sp_is_row (dCons (dVar 2) dNil)) (dOp rdEq (dCall sp_changed_or_wrong (dCons (dVar 0) (dCons (dVar 2) dNil))) (dTup (dCons (dVar 1) (dCons (dC .non) dNil))))))))
--_law_hand
def r__law_hand : DS := (dRet (dLst (dCons (dLc (iSeqD (dSl (dVar 0) oNone (oSome (dC (.int 63))))) (gN 1) dYes (dCB rdInt (dCons (dVar 1) dNil)) [1]) (dCons (dC (.int 0)) (dCons (dC (.int 0)) (dCons (dOp rdAdd (dC (.int 1)) (dCB rdLen (dCons (dSl (dVar 0) oNone (oSome (dC (.int 63)))) dNil))) (dCons (dC (.int 0)) dNil)))))))
--_law_draw
def r__law_draw : DS := (dSeq (dIfS (dAndT (dTest (dOp rdEq (dOp rdIx (dVar 0) (dC (.int 2))) (dC (.int 0)))) (dTest (dOp rdLt (dOp rdIx (dVar 0) (dC (.int 1))) (dCB rdLen (dCons (dOp rdIx (dVar 0) (dC (.int 0))) dNil))))) (dSeq (dAsg (dOp rdIx (dOp rdIx (dVar 0) (dC (.int 0))) (dOp rdIx (dVar 0) (dC (.int 1)))) (gN 2))
    (dSeq (dAsg (dOp rdAdd (dOp rdIx (dVar 0) (dC (.int 1))) (dC (.int 1))) (gSubD rdSet (dVar 0) (dC (.int 1))))
    (dSeq (dAsg (dOp rdMod (dCB rdInt (dCons (dOp rdAdd (dOp rdAdd (dOp rdMul (dOp rdIx (dVar 0) (dC (.int 3))) (dC (.int 69621))) (dOp rdMul (dVar 2) (dC (.int 16)))) (dC (.int 11))) dNil)) (dC (.int 2147483629))) (gSubD rdSet (dVar 0) (dC (.int 3))))
    (dIfS (dTest (dOp rdGe (dVar 2) (dOp rdPow (dC (.int 10)) (dC (.int 18))))) (dAsg (dVar 2) (gSubD rdSet (dVar 0) (dC (.int 2)))) dNext)))) dNext)
    (dSeq (dIfS (dTest (dOp rdGt (dOp rdIx (dVar 0) (dC (.int 2))) (dC (.int 0)))) (dSeq (dAsg (dOp rdMod (dCB rdInt (dCons (dOp rdIx (dVar 0) (dC (.int 2))) dNil)) (dVar 1)) (gN 3))
    (dSeq (dAsg (dOp rdDiv (dOp rdIx (dVar 0) (dC (.int 2))) (dVar 1)) (gSubD rdSet (dVar 0) (dC (.int 2))))
    (dRet (dVar 3)))) dNext)
    (dSeq (dAsg (dOp rdAdd (dOp rdIx (dVar 0) (dC (.int 4))) (dC (.int 1))) (gSubD rdSet (dVar 0) (dC (.int 4))))
    (dSeq (dAsg (dOp rdMod (dCB rdInt (dCons (dOp rdMul (dCB rdInt (dCons (dOp rdAdd (dOp rdIx (dVar 0) (dC (.int 3))) (dOp rdMul (dC (.int 7919)) (dOp rdIx (dVar 0) (dC (.int 4))))) dNil)) (dC (.int 48271))) dNil)) (dC (.int 2147483647))) (gN 4))
    (dSeq (dAsg (dOp rdMod (dCB rdInt (dCons (dOp rdMul (dVar 4) (dOp rdAdd (dOp rdDiv (dVar 4) (dC (.int 1009))) (dC (.int 69621)))) dNil)) (dC (.int 2147483647))) (gN 4))
    (dSeq (dAsg (dOp rdMod (dCB rdInt (dCons (dOp rdMul (dVar 4) (dOp rdAdd (dOp rdDiv (dVar 4) (dC (.int 2003))) (dC (.int 40692)))) dNil)) (dC (.int 2147483399))) (gN 4))
    (dRet (dOp rdMod (dCB rdInt (dCons (dOp rdDiv (dVar 4) (dC (.int 16))) dNil)) (dVar 1)))))))))
--_law_is
def r__law_is (sp_self : SpD) : DS := (dSeq (dIfS (dTest (dCB rdIsi (dCons (dVar 1) (dCons (dTup (dCons (dC (.ty "tuple")) (dCons (dC (.ty "list")) dNil))) dNil)))) (dSeq (dIfS (dOrT (dTest (dOp rdNe (dCB rdIsi (dCons (dVar 0) (dCons (dC (.ty "tuple")) dNil))) (dCB rdIsi (dCons (dVar 1) (dCons (dC (.ty "tuple")) dNil))))) (dNotT (dTest (dCB rdIsi (dCons (dVar 0) (dCons (dTup (dCons (dC (.ty "tuple")) (dCons (dC (.ty "list")) dNil))) dNil)))))) (dRet (dC (.bl false))) dNext)
    (dRet (dAndV (dOp rdEq (dCB rdLen (dCons (dVar 0) dNil)) (dCB rdLen (dCons (dVar 1) dNil))) (dCB rdAll (dCons (dLc (iZipD (dCons (dVar 0) (dCons (dVar 1) dNil))) (gT 2 (gConsD (gN 2) (gConsD (gN 3) gNilD))) dYes (dCall sp_self (dCons (dVar 2) (dCons (dVar 3) dNil))) [2, 3]) dNil))))) dNext)
    (dRet (dAndV (dOp rdEq (dCB rdIsi (dCons (dVar 0) (dCons (dC (.ty "bool")) dNil))) (dCB rdIsi (dCons (dVar 1) (dCons (dC (.ty "bool")) dNil)))) (dOp rdEq (dVar 0) (dVar 1)))))
--_law_deep
def r__law_deep : DS := (dSeq (dAsg (dOp rdIx (dLst (dCons (dC .non) (dCons (dC (.str (Str.ofString "a"))) (dCons (dNeg (dC (.int 1))) (dCons dDict0 dNil))))) (dCall sp__law_draw (dCons (dVar 0) (dCons (dC (.int 4)) dNil)))) (gN 1))
    (dSeq (dFor (iR1 (dCons (dOp rdAdd (dC (.int 1)) (dCall sp__law_draw (dCons (dVar 0) (dCons (dC (.int 30)) dNil)))) dNil)) (gN 2) (dAsg (dOp rdIx (dLst (dCons (dTup (dCons (dVar 1) dNil)) (dCons (dLst (dCons (dVar 1) dNil)) (dCons (dSl (dTup (dCons (dVar 1) (dCons (dVar 1) dNil))) oNone (oSome (dC (.int 1)))) (dCons (dDict1 (dC (.int 0)) (dVar 1)) dNil))))) (dCall sp__law_draw (dCons (dVar 0) (dCons (dC (.int 4)) dNil)))) (gN 1)))
    (dRet (dVar 1))))
--_law_whole
def r__law_whole : DS := (dSeq (dAsg (dLst dNil) (gN 1))
    (dSeq (dFor (iR1 (dCons (dC (.int 10)) dNil)) (gN 2) (dSeq (dIfS (dTest (dOp rdLt (dVar 0) (dC (.int 128)))) dBreak dNext)
    (dSeq (dDrop (dBM rdAppend (dVar 1) (dCons (dOp rdAdd (dOp rdMod (dCB rdInt (dCons (dVar 0) dNil)) (dC (.int 128))) (dC (.int 128))) dNil)))
    (dAsg (dOp rdDiv (dVar 0) (dC (.int 128))) (gN 0)))))
    (dRet (dCB rdTuple (dCons (dOp rdAdd (dVar 1) (dLst (dCons (dVar 0) dNil))) dNil)))))
--_law_read
def r__law_read : DS := (dSeq (dFor (iR1 (dCons (dC (.int 10)) dNil)) (gN 2) (dSeq (dIfS (dTest (dOp rdGe (dOp rdAdd (dVar 1) (dVar 2)) (dCB rdLen (dCons (dVar 0) dNil)))) (dRet (dC .non)) dNext)
    (dIfS (dTest (dOp rdLt (dOp rdIx (dVar 0) (dOp rdAdd (dVar 1) (dVar 2))) (dC (.int 128)))) (dSeq (dIfS (dAndT (dTest (dOp rdGt (dVar 2) (dC (.int 0)))) (dTest (dOp rdEq (dOp rdIx (dVar 0) (dOp rdAdd (dVar 1) (dVar 2))) (dC (.int 0))))) (dRet (dC .non)) dNext)
    (dSeq (dAsg (dC (.int 0)) (gN 3))
    (dSeq (dFor (iR3 (dCons (dOp rdAdd (dVar 1) (dVar 2)) (dCons (dOp rdSub (dVar 1) (dC (.int 1))) (dCons (dNeg (dC (.int 1))) dNil)))) (gN 4) (dAsg (dOp rdAdd (dOp rdMul (dVar 3) (dC (.int 128))) (dOp rdMod (dCB rdInt (dCons (dOp rdIx (dVar 0) (dVar 4)) dNil)) (dC (.int 128)))) (gN 3)))
    (dSeq (dIfS (dTest (dOp rdGe (dVar 3) (dOp rdPow (dC (.int 2)) (dC (.int 64))))) (dRet (dC .non)) dNext)
    (dRet (dTup (dCons (dVar 3) (dCons (dOp rdAdd (dOp rdAdd (dVar 1) (dVar 2)) (dC (.int 1))) dNil)))))))) dNext)))
    (dRet (dC .non)))
--_law_byte
def r__law_byte : DS := (dSeq (dIfS (dTest (dOp rdEq (dCall sp__law_draw (dCons (dVar 0) (dCons (dC (.int 2)) dNil))) (dC (.int 0)))) (dRet (dOp rdIx (dLst (dCons (dC (.int 0)) (dCons (dC (.int 1)) (dCons (dC (.int 127)) (dCons (dC (.int 128)) (dCons (dC (.int 129)) (dCons (dC (.int 255)) dNil))))))) (dCall sp__law_draw (dCons (dVar 0) (dCons (dC (.int 6)) dNil))))) dNext)
    (dRet (dCall sp__law_draw (dCons (dVar 0) (dCons (dC (.int 256)) dNil)))))
--_law_bytes
def r__law_bytes : DS := (dRet (dCB rdTuple (dCons (dLc (iR1 (dCons (dCall sp__law_draw (dCons (dVar 0) (dCons (dOp rdAdd (dVar 1) (dC (.int 1))) dNil))) dNil)) (gN 2) dYes (dCall sp__law_byte (dCons (dVar 0) dNil)) [2]) dNil)))
--_law_spoilt
def r__law_spoilt : DS := (dSeq (dAsg (dCall sp__law_draw (dCons (dVar 0) (dCons (dC (.int 5)) dNil))) (gN 2))
    (dSeq (dAsg (dCall sp__law_draw (dCons (dVar 0) (dCons (dOp rdAdd (dCB rdLen (dCons (dVar 1) dNil)) (dC (.int 1))) dNil))) (gN 3))
    (dSeq (dIfS (dTest (dOp rdEq (dVar 2) (dC (.int 0)))) (dRet (dOp rdAdd (dOp rdAdd (dSl (dVar 1) oNone (oSome (dVar 3))) (dTup (dCons (dCall sp__law_byte (dCons (dVar 0) dNil)) dNil))) (dSl (dVar 1) (oSome (dOp rdAdd (dVar 3) (dC (.int 1)))) oNone))) dNext)
    (dSeq (dIfS (dTest (dOp rdEq (dVar 2) (dC (.int 1)))) (dRet (dOp rdAdd (dOp rdAdd (dSl (dVar 1) oNone (oSome (dVar 3))) (dTup (dCons (dCall sp__law_byte (dCons (dVar 0) dNil)) dNil))) (dSl (dVar 1) (oSome (dVar 3)) oNone))) dNext)
    (dSeq (dIfS (dTest (dOp rdEq (dVar 2) (dC (.int 2)))) (dRet (dOp rdAdd (dSl (dVar 1) oNone (oSome (dVar 3))) (dSl (dVar 1) (oSome (dOp rdAdd (dVar 3) (dC (.int 1)))) oNone))) dNext)
    (dSeq (dIfS (dTest (dOp rdEq (dVar 2) (dC (.int 3)))) (dRet (dSl (dVar 1) oNone (oSome (dVar 3)))) dNext)
    (dRet (dOp rdAdd (dVar 1) (dCall sp__law_bytes (dCons (dVar 0) (dCons (dC (.int 4)) dNil)))))))))))
--_law_become
def r__law_become : DS := (dSeq (dAsg (dLst dNil) (gN 2))
    (dSeq (dAsg (dC (.int 0)) (gN 3))
    (dSeq (dAsg (dC (.int 0)) (gN 4))
    (dSeq (dFor (iR1 (dCons (dOp rdAdd (dCB rdLen (dCons (dVar 1) dNil)) (dC (.int 1))) dNil)) (gN 5) (dSeq (dIfS (dTest (dOp rdEq (dVar 4) (dCB rdLen (dCons (dVar 1) dNil)))) (dRet (dTup (dCons (dCB rdTuple (dCons (dVar 2) dNil)) (dCons (dNeg (dC (.int 1))) dNil)))) dNext)
    (dSeq (dAsg (dCall sp__law_read (dCons (dVar 1) (dCons (dVar 4) dNil))) (gN 6))
    (dSeq (dIfS (dOrT (dTest (dOp (rdIsN fun b => b) (dVar 6) (dC .non))) (dTest (dOp rdLt (dOp rdIx (dVar 6) (dC (.int 0))) (dC (.int 3))))) (dRet (dTup (dCons (dC .non) (dCons (dVar 4) dNil)))) dNext)
    (dSeq (dAsg (dOp rdDiv (dOp rdIx (dVar 6) (dC (.int 0))) (dC (.int 3))) (gN 7))
    (dSeq (dAsg (dOp rdMod (dCB rdInt (dCons (dOp rdIx (dVar 6) (dC (.int 0))) dNil)) (dC (.int 3))) (gN 8))
    (dIfS (dTest (dOp rdEq (dVar 8) (dC (.int 2)))) (dSeq (dIfS (dTest (dOp rdGt (dOp rdAdd (dOp rdIx (dVar 6) (dC (.int 1))) (dVar 7)) (dCB rdLen (dCons (dVar 1) dNil)))) (dRet (dTup (dCons (dC .non) (dCons (dVar 4) dNil)))) dNext)
    (dSeq (dDrop (dBM rdExtend (dVar 2) (dCons (dSl (dVar 1) (oSome (dOp rdIx (dVar 6) (dC (.int 1)))) (oSome (dOp rdAdd (dOp rdIx (dVar 6) (dC (.int 1))) (dVar 7)))) dNil)))
    (dAsg (dOp rdAdd (dOp rdIx (dVar 6) (dC (.int 1))) (dVar 7)) (gN 4)))) (dSeq (dIfS (dTest (dOp rdGt (dOp rdAdd (dVar 3) (dVar 7)) (dCB rdLen (dCons (dVar 0) dNil)))) (dRet (dTup (dCons (dC .non) (dCons (dVar 4) dNil)))) dNext)
    (dSeq (dIfS (dTest (dOp rdEq (dVar 8) (dC (.int 0)))) (dDrop (dBM rdExtend (dVar 2) (dCons (dSl (dVar 0) (oSome (dVar 3)) (oSome (dOp rdAdd (dVar 3) (dVar 7)))) dNil))) dNext)
    (dSeq (dAsg (dOp rdAdd (dVar 3) (dVar 7)) (gN 3))
    (dAsg (dOp rdIx (dVar 6) (dC (.int 1))) (gN 4))))))))))))
    (dRet (dTup (dCons (dC .non) (dCons (dVar 4) dNil))))))))
--_law_changed_told
def r__law_changed_told (c_WorldError : Addr) (c_NoRow : Addr) (c_BadChange : Addr) : DS := (dTake (dRet (dTup (dCons (dC (.str (Str.ofString "told"))) (dCons (dCall (sp_changed c_NoRow c_BadChange) (dCons (dVar 0) (dCons (dVar 1) dNil))) dNil)))) 2 [(.ref c_NoRow, false), (.ref c_BadChange, true)] fun ea ecls eda => (dRet (dTup (dCons (dC (.str (Str.ofString "bad"))) (dCons (dXf ea ecls eda c_BadChange (Str.ofString "place") (dVar 2)) dNil)))))
--_law_is_told
def r__law_is_told (c_WorldError : Addr) (c_NoRow : Addr) (c_BadChange : Addr) : DS := (dSeq (dAsg (dCall sp__law_become (dCons (dVar 0) (dCons (dVar 2) dNil))) (gT 2 (gConsD (gN 3) (gConsD (gN 4) gNilD))))
    (dSeq (dAsg (dCall (sp__law_changed_told c_WorldError c_NoRow c_BadChange) (dCons (dVar 0) (dCons (dVar 2) dNil))) (gN 5))
    (dSeq (dIfS (dTest (dOp (rdIsN fun b => b) (dVar 3) (dC .non))) (dIfS (dNotT (dTest (dCall (sp__law_is 4) (dCons (dVar 5) (dCons (dTup (dCons (dC (.str (Str.ofString "bad"))) (dCons (dVar 4) dNil))) dNil))))) (dRet (dC (.bl false))) dNext) (dIfS (dNotT (dTest (dCall (sp__law_is 4) (dCons (dVar 5) (dCons (dTup (dCons (dC (.str (Str.ofString "told"))) (dCons (dVar 3) dNil))) dNil))))) (dRet (dC (.bl false))) dNext))
    (dRet (dCall (sp__law_is 4) (dCons (dCall (sp_is_change c_NoRow) (dCons (dVar 0) (dCons (dVar 1) (dCons (dVar 2) dNil)))) (dCons (dAndV (dOp (rdIsN fun b => !b) (dVar 3) (dC .non)) (dOp rdEq (dVar 3) (dVar 1))) dNil)))))))
--_law_drawn_change
def r__law_drawn_change : DS := (dSeq (dAsg (dTup dNil) (gN 2))
    (dSeq (dAsg (dC (.int 0)) (gN 3))
    (dSeq (dFor (iR1 (dCons (dCall sp__law_draw (dCons (dVar 0) (dCons (dC (.int 9)) dNil))) dNil)) (gN 4) (dSeq (dAsg (dCall sp__law_draw (dCons (dVar 0) (dCons (dC (.int 3)) dNil))) (gN 5))
    (dIfS (dTest (dOp rdEq (dVar 5) (dC (.int 2)))) (dSeq (dAsg (dCB rdTuple (dCons (dLc (iR1 (dCons (dOp rdAdd (dC (.int 1)) (dCall sp__law_draw (dCons (dVar 0) (dCons (dC (.int 50)) dNil)))) dNil)) (gN 8) dYes (dCall sp__law_byte (dCons (dVar 0) dNil)) [8]) dNil)) (gN 6))
    (dAsg (dOp rdAdd (dOp rdAdd (dVar 2) (dCall sp__law_whole (dCons (dOp rdAdd (dOp rdMul (dC (.int 3)) (dCB rdLen (dCons (dVar 6) dNil))) (dC (.int 2))) dNil))) (dVar 6)) (gN 2))) (dSeq (dAsg (dCall sp__law_draw (dCons (dVar 0) (dCons (dOp rdAdd (dOp rdSub (dCB rdLen (dCons (dVar 1) dNil)) (dVar 3)) (dC (.int 1))) dNil))) (gN 7))
    (dSeq (dIfS (dTest (dOp rdEq (dCall sp__law_draw (dCons (dVar 0) (dCons (dC (.int 8)) dNil))) (dC (.int 0)))) (dAsg (dOp rdIx (dLst (dCons (dC (.int 0)) (dCons (dOp rdAdd (dOp rdSub (dCB rdLen (dCons (dVar 1) dNil)) (dVar 3)) (dC (.int 1))) (dCons (dOp rdPow (dC (.int 2)) (dC (.int 61))) dNil)))) (dCall sp__law_draw (dCons (dVar 0) (dCons (dC (.int 3)) dNil)))) (gN 7)) dNext)
    (dSeq (dIfS (dOrT (dTest (dOp rdGt (dVar 7) (dC (.int 0)))) (dTest (dOp rdEq (dCall sp__law_draw (dCons (dVar 0) (dCons (dC (.int 8)) dNil))) (dC (.int 0))))) (dAsg (dOp rdAdd (dVar 2) (dCall sp__law_whole (dCons (dOp rdAdd (dOp rdMul (dC (.int 3)) (dVar 7)) (dVar 5)) dNil))) (gN 2)) dNext)
    (dAsg (dCB (rdInt2 fun i j => .int (if j < i then j else i)) (dCons (dCB rdLen (dCons (dVar 1) dNil)) (dCons (dOp rdAdd (dVar 3) (dVar 7)) dNil))) (gN 3))))))))
    (dRet (dVar 2)))))
--_law_spliced
def r__law_spliced : DS := (dSeq (dFor (iR1 (dCons (dCall sp__law_draw (dCons (dVar 0) (dCons (dC (.int 4)) dNil))) dNil)) (gN 2) (dSeq (dAsg (dCall sp__law_draw (dCons (dVar 0) (dCons (dOp rdAdd (dCB rdLen (dCons (dVar 1) dNil)) (dC (.int 1))) dNil))) (gN 3))
    (dSeq (dAsg (dOp rdAdd (dVar 3) (dCall sp__law_draw (dCons (dVar 0) (dCons (dOp rdAdd (dCB (rdInt2 fun i j => .int (if j < i then j else i)) (dCons (dC (.int 20)) (dCons (dOp rdSub (dCB rdLen (dCons (dVar 1) dNil)) (dVar 3)) dNil))) (dC (.int 1))) dNil)))) (gN 4))
    (dAsg (dOp rdAdd (dOp rdAdd (dSl (dVar 1) oNone (oSome (dVar 3))) (dCall sp__law_bytes (dCons (dVar 0) (dCons (dC (.int 6)) dNil)))) (dSl (dVar 1) (oSome (dVar 4)) oNone)) (gN 1)))))
    (dRet (dVar 1)))
--_law_is_path
def r__law_is_path (c_NoRow : Addr) (c_BadChange : Addr) : DS := (dSeq (dAsg (dCall (sp_change c_NoRow) (dCons (dVar 0) (dCons (dVar 1) dNil))) (gN 2))
    (dSeq (dAsg (dOp rdAdd (dCB rdLen (dCons (dVar 1) dNil)) (dC (.int 11))) (gN 3))
    (dSeq (dIfS (dTest (dOp rdEq (dVar 0) (dVar 1))) (dAsg (dC (.int 11)) (gN 3)) dNext)
    (dSeq (dIfS (dOrT (dNotT (dTest (dCB rdIsi (dCons (dVar 2) (dCons (dC (.ty "tuple")) dNil))))) (dOrT (dTest (dOp rdGt (dCB rdLen (dCons (dVar 2) dNil)) (dVar 3))) (dNotT (dTest (dCall (sp__law_is 4) (dCons (dCall (sp_is_change c_NoRow) (dCons (dVar 0) (dCons (dVar 1) (dCons (dVar 2) dNil)))) (dCons (dC (.bl true)) dNil))))))) (dRet (dC (.bl false))) dNext)
    (dRet (dAndV (dOp rdEq (dCall sp__law_become (dCons (dVar 0) (dCons (dVar 2) dNil))) (dTup (dCons (dVar 1) (dCons (dNeg (dC (.int 1))) dNil)))) (dCall (sp__law_is 4) (dCons (dCall (sp_changed c_NoRow c_BadChange) (dCons (dVar 0) (dCons (dVar 2) dNil))) (dCons (dVar 1) dNil)))))))))
--law
def r_law (c_WorldError : Addr) (c_NoRow : Addr) (c_BadChange : Addr) : DS := (dSeq (dAsg (dCall sp__law_hand (dCons (dVar 0) dNil)) (gN 1))
    (dSeq (dAsg (dCall sp__law_draw (dCons (dVar 1) (dCons (dC (.int 5)) dNil))) (gN 2))
    (dSeq (dAsg (dOp rdMul (dCall sp__law_bytes (dCons (dVar 1) (dCons (dC (.int 30)) dNil))) (dOp rdIx (dLst (dCons (dC (.int 1)) (dCons (dC (.int 2)) (dCons (dC (.int 8)) dNil)))) (dCall sp__law_draw (dCons (dVar 1) (dCons (dC (.int 3)) dNil))))) (gN 3))
    (dSeq (dAsg (dOp rdIx (dLst (dCons (dCall sp__law_spliced (dCons (dVar 1) (dCons (dVar 3) dNil))) (dCons (dCall sp__law_spliced (dCons (dVar 1) (dCons (dVar 3) dNil))) (dCons (dCall sp__law_bytes (dCons (dVar 1) (dCons (dC (.int 40)) dNil))) (dCons (dVar 3) (dCons (dTup dNil) dNil)))))) (dVar 2)) (gN 4))
    (dSeq (dIfS (dOrT (dNotT (dTest (dCall (sp__law_is_path c_NoRow c_BadChange) (dCons (dVar 3) (dCons (dVar 4) dNil))))) (dOrT (dNotT (dTest (dCall (sp__law_is_path c_NoRow c_BadChange) (dCons (dVar 4) (dCons (dVar 3) dNil))))) (dNotT (dTest (dCall (sp__law_is_path c_NoRow c_BadChange) (dCons (dVar 3) (dCons (dVar 3) dNil))))))) (dRet (dC (.bl false))) dNext)
    (dSeq (dIfS (dNotT (dTest (dCall (sp__law_is 4) (dCons (dCall (sp_changed c_NoRow c_BadChange) (dCons (dCall (sp_changed c_NoRow c_BadChange) (dCons (dVar 3) (dCons (dCall (sp_change c_NoRow) (dCons (dVar 3) (dCons (dVar 4) dNil))) dNil))) (dCons (dCall (sp_change c_NoRow) (dCons (dVar 4) (dCons (dVar 3) dNil))) dNil))) (dCons (dVar 3) dNil))))) (dRet (dC (.bl false))) dNext)
    (dSeq (dAsg (dCall sp__law_drawn_change (dCons (dVar 1) (dCons (dVar 3) dNil))) (gN 5))
    (dSeq (dIfS (dNotT (dTest (dCall (sp__law_is_told c_WorldError c_NoRow c_BadChange) (dCons (dVar 3) (dCons (dVar 4) (dCons (dVar 5) dNil)))))) (dRet (dC (.bl false))) dNext)
    (dSeq (dAsg (dOp rdIx (dCall sp__law_become (dCons (dVar 3) (dCons (dVar 5) dNil))) (dC (.int 0))) (gN 6))
    (dSeq (dIfS (dAndT (dTest (dOp (rdIsN fun b => !b) (dVar 6) (dC .non))) (dNotT (dTest (dCall (sp__law_is_told c_WorldError c_NoRow c_BadChange) (dCons (dVar 3) (dCons (dVar 6) (dCons (dVar 5) dNil))))))) (dRet (dC (.bl false))) dNext)
    (dSeq (dFor (iSeqD (dLst (dCons (dCall sp__law_spoilt (dCons (dVar 1) (dCons (dVar 5) dNil))) (dCons (dCall sp__law_spoilt (dCons (dVar 1) (dCons (dCall (sp_change c_NoRow) (dCons (dVar 3) (dCons (dVar 4) dNil))) dNil))) (dCons (dCall sp__law_bytes (dCons (dVar 1) (dCons (dC (.int 12)) dNil))) (dCons (dTup dNil) dNil)))))) (gN 7) (dIfS (dNotT (dTest (dCall (sp__law_is_told c_WorldError c_NoRow c_BadChange) (dCons (dVar 3) (dCons (dVar 4) (dCons (dVar 7) dNil)))))) (dRet (dC (.bl false))) dNext))
    (dSeq (dAsg (dOp rdIx (dLst (dCons (dC .non) (dCons (dCB rdList (dCons (dCall (sp_change c_NoRow) (dCons (dVar 3) (dCons (dVar 4) dNil))) dNil)) (dCons (dC (.int 7)) (dCons (dTup (dCons (dC (.int 256)) dNil)) (dCons (dTup (dCons (dC (.bl true)) dNil)) (dCons (dC (.str (Str.ofString ""))) (dCons (dTup (dCons (dC .non) dNil)) (dCons (dCall sp__law_deep (dCons (dVar 1) dNil)) dNil))))))))) (dCall sp__law_draw (dCons (dVar 1) (dCons (dC (.int 8)) dNil)))) (gN 8))
    (dRet (dCall (sp__law_is 4) (dCons (dCall (sp_is_change c_NoRow) (dCons (dVar 3) (dCons (dVar 4) (dCons (dVar 8) dNil)))) (dCons (dC (.bl false)) dNil))))))))))))))))
end Lw

namespace Lw
open PySem PySem.Spec PyProof.Rows L2 VD
theorem pairs_self {xs : List Dv} {x : Dv} (h : x ∈ pairs xs xs) : ∃ d ∈ xs, x = .tup [d, d] := by
  obtain ⟨i, hi, rfl⟩ := List.mem_iff_getElem.mp h
  obtain ⟨u, v, h1, h2, h3⟩ := pairs_get (List.getElem?_eq_getElem hi)
  rw [h1] at h2
  cases h2
  exact ⟨u, List.mem_of_getElem? h1, h3⟩
theorem eq_selfD {d : Dv} {S : Sto} {Q : QD} (h : d = .non ∨ (∃ b, d = .bl b) ∨ (∃ b, d = .int b) ∨ ∃ b, d = .str b) (q : Q (.bl true) S) : rdEq d d S Q := by
  rcases h with rfl | ⟨b, rfl⟩ | ⟨b, rfl⟩ | ⟨b, rfl⟩
  · exact ⟨⟨shp_non, shp_non⟩, q⟩
  all_goals
    unfold rdEq rdEqG
    dsimp only
    rw [decide_eq_true rfl]
    exact q
theorem isi_seq {S : Sto} {d : Dv} {Q : QD} (h : known S d) (hr : ∀ a, d ≠ .ref a) (hn : ∀ a, d ≠ .ty a) (hn2 : ∀ a, d ≠ .rol a) (q : Q (.bl (isTup d)) S) : rdIsi [d, .tup [.ty "tuple", .ty "list"]] S Q := by
  have e : ["tuple", "list"].all tyNames.contains = true := by decide
  unfold rdIsi isiAny
  cases d with
  | ref a => exact (hr a rfl).elim
  | ty a => exact (hn a rfl).elim
  | rol a => exact (hn2 a rfl).elim
  | _ => simp only [tyN, tysOf, Option.map, e, if_true]; exact q
theorem rd__law_is (n : Nat) : Rd (r__law_is (sp__law_is n)) 4 (sp__law_is (n + 1)) := by
  rintro ds S Q X ⟨d, rfl, hp, h⟩
  unfold r__law_is
  simp only [dSeq, dAsg, dRet, dRetN, dIfS, dNext, dDrop, dRaise, dBreak, dCont, dTest, dOp, dVar, dC, dCB, dCons, dNil, dCall, dAndV, dOrV, dNotV, dAndT, dOrT, dNotT, dIf, dTup, dLst, dSl, oSome, oNone, dNeg, gN, gT, gConsD, gNilD, gSubD, dChain, dPar, dAug, dLc, dFor, dBM, isLst, iSeqD, iR1, iR2, iR3, dYes, rdAdd, rdSub, rdMul, rdDiv, rdMod, rdPow, rdIAdd, rdCmp, rdIsN, isNon, rdEqG, rdIx, rdSet, rdSl, rdLen, rdInt1, rdInt, rdInt2, rdAppend, startN, wipeD, List.map_cons, List.map_nil, List.length_cons, List.length_nil, Nat.zero_add, Nat.sub_self, Nat.reduceAdd, Nat.reduceSub, List.replicate_succ, List.replicate_zero, List.cons_append, List.nil_append, List.append_nil, List.getElem?_cons_zero, List.getElem?_cons_succ, List.set_cons_zero, List.set_cons_succ, Option.some.injEq, exists_eq_left', DEnds.xd, atI_0, atI_1, atI_2, atI_3, atI_4, atI_5, atI_6, atI_7, ixN_50, ixN_51, ixN_52, ixN_53, ixN_54, ixN_30, ixN_31, ixN_32, put_same, put_put, true_and, and_true]
  have hs : (d = .non ∨ (∃ b, d = .bl b) ∨ (∃ b, d = .int b) ∨ ∃ b, d = .str b) ∨ ∃ xs, d = .tup xs ∧ xs.length ≤ sizeLine ∧ ∀ x ∈ xs, plain n x := by
    cases d with
    | non => exact .inl (.inl rfl)
    | bl b => exact .inl (.inr (.inl ⟨b, rfl⟩))
    | int b => exact .inl (.inr (.inr (.inl ⟨b, rfl⟩)))
    | str b => exact .inl (.inr (.inr (.inr ⟨b, rfl⟩)))
    | tup xs => exact .inr ⟨xs, rfl, hp⟩
    | _ => exact hp.elim
  have h2 : 2 ≤ sizeLine := by rw [sizeLine_eq]; decide
  refine ⟨h2, ?_⟩
  rcases hs with hs | ⟨xs, rfl, hl, hx⟩
  · have hk : known S d ∧ isTup d = false ∧ (∀ a, d ≠ .ref a) ∧ (∀ a, d ≠ .ty a) ∧ ∀ a, d ≠ .rol a := by
      rcases hs with rfl | ⟨b, rfl⟩ | ⟨b, rfl⟩ | ⟨b, rfl⟩ <;> exact ⟨⟨_, rfl⟩, rfl, by simp, by simp, by simp⟩
    refine isi_seq hk.1 hk.2.2.1 hk.2.2.2.1 hk.2.2.2.2 ?_
    rw [hk.2.1]
    refine iteF ?_
    refine isi_bool hk.1 ?_
    refine isi_bool hk.1 ?_
    unfold rdEq rdEqG
    dsimp only
    rw [decide_eq_true rfl]
    dsimp only
    exact eq_selfD hs h
  · refine isi_seq ⟨_, rfl⟩ (by simp) (by simp) (by simp) ?_
    refine iteT ?_
    refine isi_tuple ⟨_, rfl⟩ ?_
    refine isi_tuple ⟨_, rfl⟩ ?_
    unfold rdNe rdEqG
    dsimp only
    rw [decide_eq_true rfl]
    refine iteF ?_
    refine ⟨h2, ?_⟩
    refine isi_seq ⟨_, rfl⟩ (by simp) (by simp) (by simp) ?_
    refine iteF ?_
    simp only [dSeq, dAsg, dRet, dRetN, dIfS, dNext, dDrop, dRaise, dBreak, dCont, dTest, dOp, dVar, dC, dCB, dCons, dNil, dCall, dAndV, dOrV, dNotV, dAndT, dOrT, dNotT, dIf, dTup, dLst, dSl, oSome, oNone, dNeg, gN, gT, gConsD, gNilD, gSubD, dChain, dPar, dAug, dLc, dFor, dBM, isLst, iSeqD, iR1, iR2, iR3, dYes, rdAdd, rdSub, rdMul, rdDiv, rdMod, rdPow, rdIAdd, rdCmp, rdIsN, isNon, rdEqG, rdIx, rdSet, rdSl, rdLen, rdInt1, rdInt, rdInt2, rdAppend, startN, wipeD, List.map_cons, List.map_nil, List.length_cons, List.length_nil, Nat.zero_add, Nat.sub_self, Nat.reduceAdd, Nat.reduceSub, List.replicate_succ, List.replicate_zero, List.cons_append, List.nil_append, List.append_nil, List.getElem?_cons_zero, List.getElem?_cons_succ, List.set_cons_zero, List.set_cons_succ, Option.some.injEq, exists_eq_left', DEnds.xd, atI_0, atI_1, atI_2, atI_3, atI_4, atI_5, atI_6, atI_7, ixN_50, ixN_51, ixN_52, ixN_53, ixN_54, ixN_30, ixN_31, ixN_32, put_same, put_put, true_and, and_true]
    rw [decide_eq_true trivial]
    dsimp only
    unfold iZipD
    simp only [dSeq, dAsg, dRet, dRetN, dIfS, dNext, dDrop, dRaise, dBreak, dCont, dTest, dOp, dVar, dC, dCB, dCons, dNil, dCall, dAndV, dOrV, dNotV, dAndT, dOrT, dNotT, dIf, dTup, dLst, dSl, oSome, oNone, dNeg, gN, gT, gConsD, gNilD, gSubD, dChain, dPar, dAug, dLc, dFor, dBM, isLst, iSeqD, iR1, iR2, iR3, dYes, rdAdd, rdSub, rdMul, rdDiv, rdMod, rdPow, rdIAdd, rdCmp, rdIsN, isNon, rdEqG, rdIx, rdSet, rdSl, rdLen, rdInt1, rdInt, rdInt2, rdAppend, startN, wipeD, List.map_cons, List.map_nil, List.length_cons, List.length_nil, Nat.zero_add, Nat.sub_self, Nat.reduceAdd, Nat.reduceSub, List.replicate_succ, List.replicate_zero, List.cons_append, List.nil_append, List.append_nil, List.getElem?_cons_zero, List.getElem?_cons_succ, List.set_cons_zero, List.set_cons_succ, Option.some.injEq, exists_eq_left', DEnds.xd, atI_0, atI_1, atI_2, atI_3, atI_4, atI_5, atI_6, atI_7, ixN_50, ixN_51, ixN_52, ixN_53, ixN_54, ixN_30, ixN_31, ixN_32, put_same, put_put, true_and, and_true]
    refine lc_pure (fun _ => Dv.bl true) (by rw [VD.pairs_len]; omega) (fun _ _ _ => trivial) (fun x hx2 T Kq hs hq => ?_) fun p hp => ?_
    · obtain ⟨d, hd, rfl⟩ := pairs_self hx2
      simp only [dSeq, dAsg, dRet, dRetN, dIfS, dNext, dDrop, dRaise, dBreak, dCont, dTest, dOp, dVar, dC, dCB, dCons, dNil, dCall, dAndV, dOrV, dNotV, dAndT, dOrT, dNotT, dIf, dTup, dLst, dSl, oSome, oNone, dNeg, gN, gT, gConsD, gNilD, gSubD, dChain, dPar, dAug, dLc, dFor, dBM, isLst, iSeqD, iR1, iR2, iR3, dYes, rdAdd, rdSub, rdMul, rdDiv, rdMod, rdPow, rdIAdd, rdCmp, rdIsN, isNon, rdEqG, rdIx, rdSet, rdSl, rdLen, rdInt1, rdInt, rdInt2, rdAppend, startN, wipeD, List.map_cons, List.map_nil, List.length_cons, List.length_nil, Nat.zero_add, Nat.sub_self, Nat.reduceAdd, Nat.reduceSub, List.replicate_succ, List.replicate_zero, List.cons_append, List.nil_append, List.append_nil, List.getElem?_cons_zero, List.getElem?_cons_succ, List.set_cons_zero, List.set_cons_succ, Option.some.injEq, exists_eq_left', DEnds.xd, atI_0, atI_1, atI_2, atI_3, atI_4, atI_5, atI_6, atI_7, ixN_50, ixN_51, ixN_52, ixN_53, ixN_54, ixN_30, ixN_31, ixN_32, put_same, put_put, true_and, and_true]
      cases n with
      | zero => exact (hx d hd).elim
      | succ n => exact ⟨d, rfl, hx d hd, hq⟩
    · unfold rdAll lstOf
      dsimp only
      rw [put_same]
      refine ⟨List.replicate (pairs xs xs).length true, by rw [List.map_const', List.map_replicate], S, Sub.new hp, ?_⟩
      rw [show (List.replicate (pairs xs xs).length true).all id = true by simp]
      exact h
theorem isRow_ints {ns : List Int} (h : rowOk ns) : isRow (.tup (List.map Dv.int ns)) = true := by
  unfold isRow
  dsimp only
  rw [Bool.and_eq_true, List.length_map, List.all_map]
  refine ⟨by have := h.1; simp; omega, List.all_eq_true.mpr fun n hn => ?_⟩
  have := h.2 n hn
  simp [within]
  omega
theorem knownL_ints {S : Sto} {ns : List Int} : knownL S (.tup (List.map Dv.int ns)) := ⟨⟨"tuple", rfl⟩, fun x hx => by
  obtain ⟨n, _, rfl⟩ := List.mem_map.mp hx
  exact ⟨"int", rfl⟩⟩
theorem rangeL_mem {lo : Int} {n i : Nat} {x : Dv} (h : (rangeL lo n 1)[i]? = some x) : i < n ∧ x = .int (lo + i) := by
  obtain ⟨h1, h2⟩ := rangeL_get h
  rw [Int.mul_one] at h2
  exact ⟨h1, h2⟩
theorem rd__law_hand : Rd r__law_hand 2 sp__law_hand := by
  rintro ds S Q X ⟨ns, rfl, hl, h⟩
  unfold r__law_hand
  simp only [dSeq, dAsg, dRet, dRetN, dIfS, dNext, dDrop, dRaise, dBreak, dCont, dTest, dOp, dVar, dC, dCB, dCons, dNil, dCall, dAndV, dOrV, dNotV, dAndT, dOrT, dNotT, dIf, dTup, dLst, dSl, oSome, oNone, dNeg, gN, gT, gConsD, gNilD, gSubD, dChain, dPar, dAug, dLc, dFor, dBM, isLst, iSeqD, iR1, iR2, iR3, dYes, rdAdd, rdSub, rdMul, rdDiv, rdMod, rdPow, rdIAdd, rdCmp, rdIsN, isNon, rdEqG, rdIx, rdSet, rdSl, rdLen, rdInt1, rdInt, rdInt2, rdAppend, startN, wipeD, List.map_cons, List.map_nil, List.length_cons, List.length_nil, Nat.zero_add, Nat.sub_self, Nat.reduceAdd, Nat.reduceSub, List.replicate_succ, List.replicate_zero, List.cons_append, List.nil_append, List.append_nil, List.getElem?_cons_zero, List.getElem?_cons_succ, List.set_cons_zero, List.set_cons_succ, Option.some.injEq, exists_eq_left', DEnds.xd, atI_0, atI_1, atI_2, atI_3, atI_4, atI_5, atI_6, atI_7, ixN_50, ixN_51, ixN_52, ixN_53, ixN_54, ixN_30, ixN_31, ixN_32, put_same, put_put, true_and, and_true]
  intro p hp
  have hlen : (VD.cutD (List.map Dv.int ns) none (some 63)).length ≤ 63 := by
    rw [cut_take (by decide), List.length_take, show (Int.toNat 63) = 63 from rfl]
    omega
  have e1 : VD.cutD (List.map Dv.int ns) none (some 63) = List.map Dv.int (ns.take 63) := by
    rw [cut_take (by decide), ← List.map_take]
    rfl
  rw [e1] at hlen ⊢
  refine lc_pure (fun x => x) (by rw [sizeLine_eq]; omega) (fun q m hq => ?_) (fun x hx T Kq hs hq => ?_) fun q hq => ?_
  · rw [put_ne (ne_of put_same hq), put_same]
  · obtain ⟨w, _, rfl⟩ := List.mem_map.mp hx
    simp only [dSeq, dAsg, dRet, dRetN, dIfS, dNext, dDrop, dRaise, dBreak, dCont, dTest, dOp, dVar, dC, dCB, dCons, dNil, dCall, dAndV, dOrV, dNotV, dAndT, dOrT, dNotT, dIf, dTup, dLst, dSl, oSome, oNone, dNeg, gN, gT, gConsD, gNilD, gSubD, dChain, dPar, dAug, dLc, dFor, dBM, isLst, iSeqD, iR1, iR2, iR3, dYes, rdAdd, rdSub, rdMul, rdDiv, rdMod, rdPow, rdIAdd, rdCmp, rdIsN, isNon, rdEqG, rdIx, rdSet, rdSl, rdLen, rdInt1, rdInt, rdInt2, rdAppend, startN, wipeD, List.map_cons, List.map_nil, List.length_cons, List.length_nil, Nat.zero_add, Nat.sub_self, Nat.reduceAdd, Nat.reduceSub, List.replicate_succ, List.replicate_zero, List.cons_append, List.nil_append, List.append_nil, List.getElem?_cons_zero, List.getElem?_cons_succ, List.set_cons_zero, List.set_cons_succ, Option.some.injEq, exists_eq_left', DEnds.xd, atI_0, atI_1, atI_2, atI_3, atI_4, atI_5, atI_6, atI_7, ixN_50, ixN_51, ixN_52, ixN_53, ixN_54, ixN_30, ixN_31, ixN_32, put_same, put_put, true_and, and_true]
    exact hq
  · have hpq := ne_of put_same hq
    refine fun p2 hp2 => ?_
    try rw [put_same]
    try dsimp only
    refine ⟨by decide, fun r hr => ?_⟩
    have hqp2 : q ≠ p2 := ne_of put_same hp2
    have hqr : q ≠ r := by
      refine ne_of (m := .lst (List.map (fun x => x) (List.map Dv.int (List.take 63 ns)))) ?_ hr
      rw [put_ne hqp2]
      exact put_same
    refine h r q _ ⟨0, 0, _, 0, ns.take 63, put_same, ?_, hqr, by decide⟩
    rw [put_ne hqr, put_ne hqp2, put_same, List.map_id']
theorem mul_small {i j : Int} (h : 0 ≤ i) (h2 : i < 2147483647) : IntMulOk i j := mulok_l (by omega) (by omega)
theorem rd__law_draw : Rd r__law_draw 5 sp__law_draw := by
  rintro ds S Q X ⟨a, c, m, rfl, hH, hm, hm2, h⟩
  unfold r__law_draw
  refine cut_seq (fun ρ T => Hd a c S T ∧ ∃ y, ρ = [some (.ref a), some (.int m), y, none, none]) (fun N hN => ?_) (fun ρ T hM => ?_)
  · obtain ⟨i, g, k, n, cells, ha, hc, hca, hi⟩ := id hH
    simp only [dIfS, dTest, dOp, dVar, dC, dCB, dCons, dNil, dCall, dAndV, dOrV, dNotV, dAndT, dOrT, dNotT, dIf, dTup, dLst, dSl, oSome, oNone, dNeg, gN, gT, gConsD, gNilD, gSubD, dChain, dLc, dBM, isLst, iSeqD, iR1, iR2, iR3, dYes, rdAdd, rdSub, rdMul, rdDiv, rdMod, rdPow, rdIAdd, rdCmp, rdIsN, isNon, rdEqG, rdIx, rdSet, rdSl, rdLen, rdInt1, rdInt, rdInt2, rdAppend, startN, wipeD, List.map_cons, List.map_nil, List.length_cons, List.length_nil, Nat.zero_add, Nat.sub_self, Nat.reduceAdd, Nat.reduceSub, List.replicate_succ, List.replicate_zero, List.cons_append, List.nil_append, List.append_nil, List.getElem?_cons_zero, List.getElem?_cons_succ, List.set_cons_zero, List.set_cons_succ, Option.some.injEq, exists_eq_left', DEnds.xd, atI_0, atI_1, atI_2, atI_3, atI_4, atI_5, atI_6, atI_7, ixN_50, ixN_51, ixN_52, ixN_53, ixN_54, ixN_30, ixN_31, ixN_32, put_same, put_put, true_and, and_true, ha, hc, put_ne hca]
    have e0 : ∃ y, [some (Dv.ref a), some (Dv.int m), none, none, none] = [some (.ref a), some (.int m), y, none, none] := ⟨_, rfl⟩
    by_cases h1 : g = 0
    · rw [if_pos (decide_eq_true h1)]
      by_cases h2 : i < ((List.map Dv.int cells).length : Int)
      · rw [if_pos (decide_eq_true h2)]
        have hr : i.toNat < cells.length := by rw [List.length_map] at h2; omega
        refine cut_seq (fun ρ T => T = S ∧ ∃ z, ρ = [some (.ref a), some (.int m), some (.int z), none, none]) (fun N2 hN2 => ?_) (fun ρ T hM => ?_)
        · simp only [dSeq, dAsg, dRet, dRetN, dIfS, dNext, dDrop, dRaise, dBreak, dCont, dTest, dOp, dVar, dC, dCB, dCons, dNil, dCall, dAndV, dOrV, dNotV, dAndT, dOrT, dNotT, dIf, dTup, dLst, dSl, oSome, oNone, dNeg, gN, gT, gConsD, gNilD, gSubD, dChain, dPar, dAug, dLc, dFor, dBM, isLst, iSeqD, iR1, iR2, iR3, dYes, rdAdd, rdSub, rdMul, rdDiv, rdMod, rdPow, rdIAdd, rdCmp, rdIsN, isNon, rdEqG, rdIx, rdSet, rdSl, rdLen, rdInt1, rdInt, rdInt2, rdAppend, startN, wipeD, List.map_cons, List.map_nil, List.length_cons, List.length_nil, Nat.zero_add, Nat.sub_self, Nat.reduceAdd, Nat.reduceSub, List.replicate_succ, List.replicate_zero, List.cons_append, List.nil_append, List.append_nil, List.getElem?_cons_zero, List.getElem?_cons_succ, List.set_cons_zero, List.set_cons_succ, Option.some.injEq, exists_eq_left', DEnds.xd, atI_0, atI_1, atI_2, atI_3, atI_4, atI_5, atI_6, atI_7, ixN_50, ixN_51, ixN_52, ixN_53, ixN_54, ixN_30, ixN_31, ixN_32, put_same, put_put, true_and, and_true, ha, hc, put_ne hca]
          exact ⟨.int cells[i.toNat], by rw [atI_nn hi, List.getElem?_map, List.getElem?_eq_getElem hr]; rfl, hN2 _ _ ⟨rfl, _, rfl⟩⟩
        · obtain ⟨rfl, z, rfl⟩ := hM
          simp only [dSeq, dAsg, dRet, dRetN, dIfS, dNext, dDrop, dRaise, dBreak, dCont, dTest, dOp, dVar, dC, dCB, dCons, dNil, dCall, dAndV, dOrV, dNotV, dAndT, dOrT, dNotT, dIf, dTup, dLst, dSl, oSome, oNone, dNeg, gN, gT, gConsD, gNilD, gSubD, dChain, dPar, dAug, dLc, dFor, dBM, isLst, iSeqD, iR1, iR2, iR3, dYes, rdAdd, rdSub, rdMul, rdDiv, rdMod, rdPow, rdIAdd, rdCmp, rdIsN, isNon, rdEqG, rdIx, rdSet, rdSl, rdLen, rdInt1, rdInt, rdInt2, rdAppend, startN, wipeD, List.map_cons, List.map_nil, List.length_cons, List.length_nil, Nat.zero_add, Nat.sub_self, Nat.reduceAdd, Nat.reduceSub, List.replicate_succ, List.replicate_zero, List.cons_append, List.nil_append, List.append_nil, List.getElem?_cons_zero, List.getElem?_cons_succ, List.set_cons_zero, List.set_cons_succ, Option.some.injEq, exists_eq_left', DEnds.xd, atI_0, atI_1, atI_2, atI_3, atI_4, atI_5, atI_6, atI_7, ixN_50, ixN_51, ixN_52, ixN_53, ixN_54, ixN_30, ixN_31, ixN_32, put_same, put_put, true_and, and_true, ha, hc, put_ne hca]
          refine ⟨mulok_r (by decide) (by decide), mulok_r (by decide) (by decide), by decide, ⟨by decide, by decide, by decide⟩, ?_⟩
          split
          · exact hN _ _ ⟨Hand.upd hc hca (by omega), _, rfl⟩
          · exact hN _ _ ⟨Hand.upd hc hca (by omega), _, rfl⟩
      · rw [if_neg (by rw [decide_eq_false h2]; decide)]
        exact hN _ _ ⟨.refl hH, e0⟩
    · rw [if_neg (by rw [decide_eq_false h1]; decide)]
      exact hN _ _ ⟨.refl hH, e0⟩
  · obtain ⟨hd, y, rfl⟩ := hM
    refine cut_seq (fun ρ T => Hd a c S T ∧ ∃ y, ρ = [some (.ref a), some (.int m), y, none, none]) (fun N hN => ?_) (fun ρ T hM => ?_)
    · obtain ⟨i, g, k, n, cells, ha, hc, hca, hi⟩ := id hd.h
      simp only [dSeq, dAsg, dRet, dRetN, dIfS, dNext, dDrop, dRaise, dBreak, dCont, dTest, dOp, dVar, dC, dCB, dCons, dNil, dCall, dAndV, dOrV, dNotV, dAndT, dOrT, dNotT, dIf, dTup, dLst, dSl, oSome, oNone, dNeg, gN, gT, gConsD, gNilD, gSubD, dChain, dPar, dAug, dLc, dFor, dBM, isLst, iSeqD, iR1, iR2, iR3, dYes, rdAdd, rdSub, rdMul, rdDiv, rdMod, rdPow, rdIAdd, rdCmp, rdIsN, isNon, rdEqG, rdIx, rdSet, rdSl, rdLen, rdInt1, rdInt, rdInt2, rdAppend, startN, wipeD, List.map_cons, List.map_nil, List.length_cons, List.length_nil, Nat.zero_add, Nat.sub_self, Nat.reduceAdd, Nat.reduceSub, List.replicate_succ, List.replicate_zero, List.cons_append, List.nil_append, List.append_nil, List.getElem?_cons_zero, List.getElem?_cons_succ, List.set_cons_zero, List.set_cons_succ, Option.some.injEq, exists_eq_left', DEnds.xd, atI_0, atI_1, atI_2, atI_3, atI_4, atI_5, atI_6, atI_7, ixN_50, ixN_51, ixN_52, ixN_53, ixN_54, ixN_30, ixN_31, ixN_32, put_same, put_put, true_and, and_true, ha, hc, put_ne hca]
      split
      · exact ⟨hm, divp 8000 hm hm2, h _ _ (hd.trans (Hand.upd hc hca hi)) (Int.emod_nonneg _ (by omega)) (Int.emod_lt_of_pos _ hm)⟩
      · exact hN _ _ ⟨hd, _, rfl⟩
    · obtain ⟨hd, y, rfl⟩ := hM
      obtain ⟨i, g, k, n, cells, ha, hc, hca, hi⟩ := id hd.h
      simp only [dSeq, dAsg, dRet, dRetN, dIfS, dNext, dDrop, dRaise, dBreak, dCont, dTest, dOp, dVar, dC, dCB, dCons, dNil, dCall, dAndV, dOrV, dNotV, dAndT, dOrT, dNotT, dIf, dTup, dLst, dSl, oSome, oNone, dNeg, gN, gT, gConsD, gNilD, gSubD, dChain, dPar, dAug, dLc, dFor, dBM, isLst, iSeqD, iR1, iR2, iR3, dYes, rdAdd, rdSub, rdMul, rdDiv, rdMod, rdPow, rdIAdd, rdCmp, rdIsN, isNon, rdEqG, rdIx, rdSet, rdSl, rdLen, rdInt1, rdInt, rdInt2, rdAppend, startN, wipeD, List.map_cons, List.map_nil, List.length_cons, List.length_nil, Nat.zero_add, Nat.sub_self, Nat.reduceAdd, Nat.reduceSub, List.replicate_succ, List.replicate_zero, List.cons_append, List.nil_append, List.append_nil, List.getElem?_cons_zero, List.getElem?_cons_succ, List.set_cons_zero, List.set_cons_succ, Option.some.injEq, exists_eq_left', DEnds.xd, atI_0, atI_1, atI_2, atI_3, atI_4, atI_5, atI_6, atI_7, ixN_50, ixN_51, ixN_52, ixN_53, ixN_54, ixN_30, ixN_31, ixN_32, put_same, put_put, true_and, and_true, ha, hc, put_ne hca]
      have b1 : ∀ x : Int, 0 ≤ x % 2147483647 ∧ x % 2147483647 < 2147483647 := fun x => by omega
      exact ⟨mulok_l (by decide) (by decide), mulok_r (by decide) (by decide), by decide, divp 64 (by decide) (by decide), mul_small (b1 _).1 (b1 _).2, by decide, divp 64 (by decide) (by decide), mul_small (b1 _).1 (b1 _).2, by decide, divp 64 (by decide) (by decide), hm, h _ _ (hd.trans (Hand.upd hc hca hi)) (Int.emod_nonneg _ (by omega)) (Int.emod_lt_of_pos _ hm)⟩
theorem abs10 {m : Int} {n : Nat} (h0 : 0 ≤ m) (h : m < 2 ^ n) (hn : n ≤ 8000 := by decide) : m.natAbs < 2 ^ 8000 := by
  refine Nat.lt_of_lt_of_le (?_ : _ < 2 ^ n) (Nat.pow_le_pow_right (by decide) hn)
  have e : ((2 : Int) ^ n) = ((2 ^ n : Nat) : Int) := by norm_cast
  omega
theorem rd__law_byte : Rd r__law_byte 1 sp__law_byte := by
  rintro ds S Q X ⟨a, c, rfl, hH, h⟩
  unfold r__law_byte
  simp only [dSeq, dAsg, dRet, dRetN, dIfS, dNext, dDrop, dRaise, dBreak, dCont, dTest, dOp, dVar, dC, dCB, dCons, dNil, dCall, dAndV, dOrV, dNotV, dAndT, dOrT, dNotT, dIf, dTup, dLst, dSl, oSome, oNone, dNeg, gN, gT, gConsD, gNilD, gSubD, dChain, dPar, dAug, dLc, dFor, dBM, isLst, iSeqD, iR1, iR2, iR3, dYes, rdAdd, rdSub, rdMul, rdDiv, rdMod, rdPow, rdIAdd, rdCmp, rdIsN, isNon, rdEqG, rdIx, rdSet, rdSl, rdLen, rdInt1, rdInt, rdInt2, rdAppend, startN, wipeD, List.map_cons, List.map_nil, List.length_cons, List.length_nil, Nat.zero_add, Nat.sub_self, Nat.reduceAdd, Nat.reduceSub, List.replicate_succ, List.replicate_zero, List.cons_append, List.nil_append, List.append_nil, List.getElem?_cons_zero, List.getElem?_cons_succ, List.set_cons_zero, List.set_cons_succ, Option.some.injEq, exists_eq_left', DEnds.xd, atI_0, atI_1, atI_2, atI_3, atI_4, atI_5, atI_6, atI_7, ixN_50, ixN_51, ixN_52, ixN_53, ixN_54, ixN_30, ixN_31, ixN_32, put_same, put_put, true_and, and_true]
  refine ⟨a, c, 2, rfl, hH, by decide, abs10 (n := 2) (by decide) (by decide), fun r T ht h1 h2 => ?_⟩
  simp only [dSeq, dAsg, dRet, dRetN, dIfS, dNext, dDrop, dRaise, dBreak, dCont, dTest, dOp, dVar, dC, dCB, dCons, dNil, dCall, dAndV, dOrV, dNotV, dAndT, dOrT, dNotT, dIf, dTup, dLst, dSl, oSome, oNone, dNeg, gN, gT, gConsD, gNilD, gSubD, dChain, dPar, dAug, dLc, dFor, dBM, isLst, iSeqD, iR1, iR2, iR3, dYes, rdAdd, rdSub, rdMul, rdDiv, rdMod, rdPow, rdIAdd, rdCmp, rdIsN, isNon, rdEqG, rdIx, rdSet, rdSl, rdLen, rdInt1, rdInt, rdInt2, rdAppend, startN, wipeD, List.map_cons, List.map_nil, List.length_cons, List.length_nil, Nat.zero_add, Nat.sub_self, Nat.reduceAdd, Nat.reduceSub, List.replicate_succ, List.replicate_zero, List.cons_append, List.nil_append, List.append_nil, List.getElem?_cons_zero, List.getElem?_cons_succ, List.set_cons_zero, List.set_cons_succ, Option.some.injEq, exists_eq_left', DEnds.xd, atI_0, atI_1, atI_2, atI_3, atI_4, atI_5, atI_6, atI_7, ixN_50, ixN_51, ixN_52, ixN_53, ixN_54, ixN_30, ixN_31, ixN_32, put_same, put_put, true_and, and_true]
  split
  · refine ⟨by decide, fun p hp => ?_⟩
    refine ⟨a, c, 6, rfl, ht.h.new hp, by decide, abs10 (n := 3) (by decide) (by decide), fun r2 T2 ht2 h3 h4 => ?_⟩
    dsimp only
    rw [ht2.s p _ (ht.h.nea hp) put_same]
    dsimp only
    obtain ⟨d, hd, hm, hm2⟩ : ∃ r, atI [Dv.int 0, .int 1, .int 127, .int 128, .int 129, .int 255] r2 = some (.int r) ∧ 0 ≤ r ∧ r < 256 := by
      have : r2 = 0 ∨ r2 = 1 ∨ r2 = 2 ∨ r2 = 3 ∨ r2 = 4 ∨ r2 = 5 := by omega
      rcases this with rfl | rfl | rfl | rfl | rfl | rfl <;> exact ⟨_, rfl, by decide, by decide⟩
    exact ⟨_, hd, h _ _ ((ht.trans (.new ht.h hp)).trans ht2) hm hm2⟩
  · exact ⟨a, c, 256, rfl, ht.h, by decide, abs10 (n := 9) (by decide) (by decide), fun r2 T2 ht2 h3 h4 => h _ _ (ht.trans ht2) h3 h4⟩
theorem rd__law_bytes : Rd r__law_bytes 3 sp__law_bytes := by
  rintro ds S Q X ⟨a, c, m, rfl, hH, hm0, hm1, h⟩
  unfold r__law_bytes
  simp only [dSeq, dAsg, dRet, dRetN, dIfS, dNext, dDrop, dRaise, dBreak, dCont, dTest, dOp, dVar, dC, dCB, dCons, dNil, dCall, dAndV, dOrV, dNotV, dAndT, dOrT, dNotT, dIf, dTup, dLst, dSl, oSome, oNone, dNeg, gN, gT, gConsD, gNilD, gSubD, dChain, dPar, dAug, dLc, dFor, dBM, isLst, iSeqD, iR1, iR2, iR3, dYes, rdAdd, rdSub, rdMul, rdDiv, rdMod, rdPow, rdIAdd, rdCmp, rdIsN, isNon, rdEqG, rdIx, rdSet, rdSl, rdLen, rdInt1, rdInt, rdInt2, rdAppend, startN, wipeD, List.map_cons, List.map_nil, List.length_cons, List.length_nil, Nat.zero_add, Nat.sub_self, Nat.reduceAdd, Nat.reduceSub, List.replicate_succ, List.replicate_zero, List.cons_append, List.nil_append, List.append_nil, List.getElem?_cons_zero, List.getElem?_cons_succ, List.set_cons_zero, List.set_cons_succ, Option.some.injEq, exists_eq_left', DEnds.xd, atI_0, atI_1, atI_2, atI_3, atI_4, atI_5, atI_6, atI_7, ixN_50, ixN_51, ixN_52, ixN_53, ixN_54, ixN_30, ixN_31, ixN_32, put_same, put_put, true_and, and_true]
  refine ⟨a, c, m + 1, rfl, hH, by omega, abs10 (n := 10) (by omega) (by omega), fun r T ht h1 h2 => ?_⟩
  simp only [dSeq, dAsg, dRet, dRetN, dIfS, dNext, dDrop, dRaise, dBreak, dCont, dTest, dOp, dVar, dC, dCB, dCons, dNil, dCall, dAndV, dOrV, dNotV, dAndT, dOrT, dNotT, dIf, dTup, dLst, dSl, oSome, oNone, dNeg, gN, gT, gConsD, gNilD, gSubD, dChain, dPar, dAug, dLc, dFor, dBM, isLst, iSeqD, iR1, iR2, iR3, dYes, rdAdd, rdSub, rdMul, rdDiv, rdMod, rdPow, rdIAdd, rdCmp, rdIsN, isNon, rdEqG, rdIx, rdSet, rdSl, rdLen, rdInt1, rdInt, rdInt2, rdAppend, startN, wipeD, List.map_cons, List.map_nil, List.length_cons, List.length_nil, Nat.zero_add, Nat.sub_self, Nat.reduceAdd, Nat.reduceSub, List.replicate_succ, List.replicate_zero, List.cons_append, List.nil_append, List.append_nil, List.getElem?_cons_zero, List.getElem?_cons_succ, List.set_cons_zero, List.set_cons_succ, Option.some.injEq, exists_eq_left', DEnds.xd, atI_0, atI_1, atI_2, atI_3, atI_4, atI_5, atI_6, atI_7, ixN_50, ixN_51, ixN_52, ixN_53, ixN_54, ixN_30, ixN_31, ixN_32, put_same, put_put, true_and, and_true]
  refine ⟨by omega, by omega, ?_⟩
  refine tup_hand (a := a) (c := c) (fun _ y => ∃ r, y = .int r ∧ 0 ≤ r ∧ r < 256) ht.h ?_ (fun _ _ => trivial) (fun j x hx p T2 K hT hp k => ?_) fun T2 acc hT hlen hacc => ?_
  · rw [rangeL_len, sizeLine_eq]; omega
  · simp only [dSeq, dAsg, dRet, dRetN, dIfS, dNext, dDrop, dRaise, dBreak, dCont, dTest, dOp, dVar, dC, dCB, dCons, dNil, dCall, dAndV, dOrV, dNotV, dAndT, dOrT, dNotT, dIf, dTup, dLst, dSl, oSome, oNone, dNeg, gN, gT, gConsD, gNilD, gSubD, dChain, dPar, dAug, dLc, dFor, dBM, isLst, iSeqD, iR1, iR2, iR3, dYes, rdAdd, rdSub, rdMul, rdDiv, rdMod, rdPow, rdIAdd, rdCmp, rdIsN, isNon, rdEqG, rdIx, rdSet, rdSl, rdLen, rdInt1, rdInt, rdInt2, rdAppend, startN, wipeD, List.map_cons, List.map_nil, List.length_cons, List.length_nil, Nat.zero_add, Nat.sub_self, Nat.reduceAdd, Nat.reduceSub, List.replicate_succ, List.replicate_zero, List.cons_append, List.nil_append, List.append_nil, List.getElem?_cons_zero, List.getElem?_cons_succ, List.set_cons_zero, List.set_cons_succ, Option.some.injEq, exists_eq_left', DEnds.xd, atI_0, atI_1, atI_2, atI_3, atI_4, atI_5, atI_6, atI_7, ixN_50, ixN_51, ixN_52, ixN_53, ixN_54, ixN_30, ixN_31, ixN_32, put_same, put_put, true_and, and_true]
    exact ⟨a, c, rfl, hT.h, fun r T' ht h1 h2 => k _ _ ⟨r, rfl, h1, h2⟩ ht⟩
  · obtain ⟨ns, rfl, hns⟩ := ints_of (P := fun r => 0 ≤ r ∧ r < 256) hacc
    rw [List.length_map, rangeL_len] at hlen
    exact h ns _ (ht.trans hT) hns (by omega)
theorem pow_top : (128 : Int) ^ (9 + 1) = 1180591620717411303424 := by decide
theorem rd_figures_of : Rd r_figures_of 3 sp_figures_of := by
  rintro ds S Q X ⟨n, rfl, h0, h1, h⟩
  unfold r_figures_of
  simp only [dSeq, dAsg, dRet, dRetN, dIfS, dNext, dDrop, dRaise, dBreak, dCont, dTest, dOp, dVar, dC, dCB, dCons, dNil, dCall, dAndV, dOrV, dNotV, dAndT, dOrT, dNotT, dIf, dTup, dLst, dSl, oSome, oNone, dNeg, gN, gT, gConsD, gNilD, gSubD, dChain, dPar, dAug, dLc, dFor, dBM, isLst, iSeqD, iR1, iR2, iR3, dYes, rdAdd, rdSub, rdMul, rdDiv, rdMod, rdPow, rdIAdd, rdCmp, rdIsN, isNon, rdEqG, rdIx, rdSet, rdSl, rdLen, rdInt1, rdInt, rdInt2, rdAppend, startN, wipeD, List.map_cons, List.map_nil, List.length_cons, List.length_nil, Nat.zero_add, Nat.sub_self, Nat.reduceAdd, Nat.reduceSub, List.replicate_succ, List.replicate_zero, List.cons_append, List.nil_append, List.append_nil, List.getElem?_cons_zero, List.getElem?_cons_succ, List.set_cons_zero, List.set_cons_succ, Option.some.injEq, exists_eq_left', DEnds.xd, atI_0, atI_1, atI_2, atI_3, atI_4, atI_5, atI_6, atI_7, ixN_50, ixN_51, ixN_52, ixN_53, ixN_54, ixN_30, ixN_31, ixN_32, put_same, put_put, true_and, and_true]
  refine ⟨by rw [sizeLine_eq]; decide, fun p hp => ?_⟩
  unfold dWhile
  refine ⟨fun m ρ T => ∃ (pre : List Int) (l : Int), T = put S p (.lst (List.map Dv.int pre)) ∧ 0 ≤ l ∧ l < 128 ^ (m + 1) ∧ pre.length + m = 9 ∧ pre ++ figF m l = figs n ∧ ρ = [some (.int n), some (.ref p), some (.int l)], ⟨9, [], n, rfl, h0, by rw [pow_top]; omega, rfl, rfl, rfl⟩, ?_⟩
  rintro m ρ T ⟨pre, l, rfl, hl0, hl1, hpm, hpre, rfl⟩
  simp only [dSeq, dAsg, dRet, dRetN, dIfS, dNext, dDrop, dRaise, dBreak, dCont, dTest, dOp, dVar, dC, dCB, dCons, dNil, dCall, dAndV, dOrV, dNotV, dAndT, dOrT, dNotT, dIf, dTup, dLst, dSl, oSome, oNone, dNeg, gN, gT, gConsD, gNilD, gSubD, dChain, dPar, dAug, dLc, dFor, dBM, isLst, iSeqD, iR1, iR2, iR3, dYes, rdAdd, rdSub, rdMul, rdDiv, rdMod, rdPow, rdIAdd, rdCmp, rdIsN, isNon, rdEqG, rdIx, rdSet, rdSl, rdLen, rdInt1, rdInt, rdInt2, rdAppend, startN, wipeD, List.map_cons, List.map_nil, List.length_cons, List.length_nil, Nat.zero_add, Nat.sub_self, Nat.reduceAdd, Nat.reduceSub, List.replicate_succ, List.replicate_zero, List.cons_append, List.nil_append, List.append_nil, List.getElem?_cons_zero, List.getElem?_cons_succ, List.set_cons_zero, List.set_cons_succ, Option.some.injEq, exists_eq_left', DEnds.xd, atI_0, atI_1, atI_2, atI_3, atI_4, atI_5, atI_6, atI_7, ixN_50, ixN_51, ixN_52, ixN_53, ixN_54, ixN_30, ixN_31, ixN_32, put_same, put_put, true_and, and_true]
  by_cases hl : 128 ≤ l
  · rw [if_pos (decide_eq_true hl)]
    refine ⟨by decide, by rw [sizeLine_eq, List.length_map]; omega, divp 64 (by decide) (by decide), ?_⟩
    cases m with
    | zero => simp at hl1; omega
    | succ m =>
      refine ⟨m, by omega, pre ++ [l % 128 + 128], l / 128, by rw [List.map_append]; rfl, by omega, by rw [pow7] at hl1; omega, by simp; omega, ?_, rfl⟩
      rw [← hpre]
      conv => rhs; unfold figF
      rw [if_neg (by omega), List.append_assoc]
      rfl
  · rw [if_neg (by rw [decide_eq_false hl]; decide)]
    unfold rdTuple seqOf
    dsimp only
    rw [put_same]
    refine ⟨S, Sub.new hp, by rw [sizeLine_eq]; decide, by rw [sizeLine_eq, List.length_map]; simp; omega, ?_⟩
    have e : figF m l = [l] := by
      cases m with
      | zero => rfl
      | succ m => unfold figF; rw [if_pos (by omega)]
    rw [e] at hpre
    rw [show [Dv.int l] = List.map Dv.int [l] from rfl, ← List.map_append, hpre]
    exact h
theorem rd_number_at : Rd r_number_at 6 sp_number_at := by
  rintro ds S Q X ⟨xs, i0, ⟨rfl, hr, hi⟩, h⟩
  unfold r_number_at
  unfold dFor
  simp only [dSeq, dAsg, dRet, dRetN, dIfS, dNext, dDrop, dRaise, dBreak, dCont, dTest, dOp, dVar, dC, dCB, dCons, dNil, dCall, dAndV, dOrV, dNotV, dAndT, dOrT, dNotT, dIf, dTup, dLst, dSl, oSome, oNone, dNeg, gN, gT, gConsD, gNilD, gSubD, dChain, dPar, dAug, dLc, dFor, dBM, isLst, iSeqD, iR1, iR2, iR3, dYes, rdAdd, rdSub, rdMul, rdDiv, rdMod, rdPow, rdIAdd, rdCmp, rdIsN, isNon, rdEqG, rdIx, rdSet, rdSl, rdLen, rdInt1, rdInt, rdInt2, rdAppend, startN, wipeD, List.map_cons, List.map_nil, List.length_cons, List.length_nil, Nat.zero_add, Nat.sub_self, Nat.reduceAdd, Nat.reduceSub, List.replicate_succ, List.replicate_zero, List.cons_append, List.nil_append, List.append_nil, List.getElem?_cons_zero, List.getElem?_cons_succ, List.set_cons_zero, List.set_cons_succ, Option.some.injEq, exists_eq_left', DEnds.xd, atI_0, atI_1, atI_2, atI_3, atI_4, atI_5, atI_6, atI_7, ixN_50, ixN_51, ixN_52, ixN_53, ixN_54, ixN_30, ixN_31, ixN_32, put_same, put_put, true_and, and_true]
  rw [List.length_map]
  have hr1 := hr.1
  generalize hm : (if (i0 : Int) + 10 < (xs.length : Int) then (i0 : Int) + 10 else (xs.length : Int)) = m
  have hm1 : (i0 : Int) ≤ m ∧ m ≤ xs.length ∧ m ≤ i0 + 10 ∧ (m = xs.length ∨ m = i0 + 10) := by
    rw [← hm]
    split <;> omega
  refine ⟨⟨by omega, by omega, by omega, by omega⟩, ?_⟩
  have hget : ∀ j : Nat, (xs.drop i0)[j]? = xs[i0 + j]? := fun j => by rw [List.getElem?_drop]
  refine for_go (fun j ρ T => T = S ∧ (∀ k, k < j → ∃ b, (xs.drop i0)[k]? = some b ∧ ¬ b < 128) ∧ ∃ y5 y6, ρ = [some (.tup (List.map Dv.int xs)), some (.int i0), some (.int (val ((xs.drop i0).take j))), some (.int (128 ^ j)), y5, y6]) ⟨rfl, fun k hk => by omega, _, _, rfl⟩ (fun _ _ _ _ _ => trivial) (fun j x ρ T hx hw => ?_) fun ρ T hw => ?_
  · obtain ⟨rfl, hb, y5, y6, rfl⟩ := hw
    obtain ⟨hj, rfl⟩ := rangeL_mem hx
    have hlt : i0 + j < xs.length := by omega
    have ex : xs[i0 + j]? = some xs[i0 + j] := List.getElem?_eq_getElem hlt
    have eb := hr.2 _ (List.getElem_mem hlt)
    have ea : atI (List.map Dv.int xs) ((i0 : Int) + (j : Int)) = some (.int xs[i0 + j]) := by
      rw [atI_nn (by omega), show ((i0 : Int) + (j : Int)).toNat = i0 + j by omega, List.getElem?_map, ex]
      rfl
    have ed : (xs.drop i0)[j]? = some xs[i0 + j] := by rw [hget, ex]
    have elen : ((xs.drop i0).take j).length = j := by rw [List.length_take, List.length_drop]; omega
    have ev : val ((xs.drop i0).take j) + xs[i0 + j] % 128 * 128 ^ j = val ((xs.drop i0).take (j + 1)) := by
      rw [List.take_add_one, ed, Option.toList_some, val_snoc, elen, Int.mul_comm]
    simp only [dSeq, dAsg, dRet, dRetN, dIfS, dNext, dDrop, dRaise, dBreak, dCont, dTest, dOp, dVar, dC, dCB, dCons, dNil, dCall, dAndV, dOrV, dNotV, dAndT, dOrT, dNotT, dIf, dTup, dLst, dSl, oSome, oNone, dNeg, gN, gT, gConsD, gNilD, gSubD, dChain, dPar, dAug, dLc, dFor, dBM, isLst, iSeqD, iR1, iR2, iR3, dYes, rdAdd, rdSub, rdMul, rdDiv, rdMod, rdPow, rdIAdd, rdCmp, rdIsN, isNon, rdEqG, rdIx, rdSet, rdSl, rdLen, rdInt1, rdInt, rdInt2, rdAppend, startN, wipeD, List.map_cons, List.map_nil, List.length_cons, List.length_nil, Nat.zero_add, Nat.sub_self, Nat.reduceAdd, Nat.reduceSub, List.replicate_succ, List.replicate_zero, List.cons_append, List.nil_append, List.append_nil, List.getElem?_cons_zero, List.getElem?_cons_succ, List.set_cons_zero, List.set_cons_succ, Option.some.injEq, exists_eq_left', DEnds.xd, atI_0, atI_1, atI_2, atI_3, atI_4, atI_5, atI_6, atI_7, ixN_50, ixN_51, ixN_52, ixN_53, ixN_54, ixN_30, ixN_31, ixN_32, put_same, put_put, true_and, and_true]
    refine ⟨_, ea, ?_⟩
    simp only [dSeq, dAsg, dRet, dRetN, dIfS, dNext, dDrop, dRaise, dBreak, dCont, dTest, dOp, dVar, dC, dCB, dCons, dNil, dCall, dAndV, dOrV, dNotV, dAndT, dOrT, dNotT, dIf, dTup, dLst, dSl, oSome, oNone, dNeg, gN, gT, gConsD, gNilD, gSubD, dChain, dPar, dAug, dLc, dFor, dBM, isLst, iSeqD, iR1, iR2, iR3, dYes, rdAdd, rdSub, rdMul, rdDiv, rdMod, rdPow, rdIAdd, rdCmp, rdIsN, isNon, rdEqG, rdIx, rdSet, rdSl, rdLen, rdInt1, rdInt, rdInt2, rdAppend, startN, wipeD, List.map_cons, List.map_nil, List.length_cons, List.length_nil, Nat.zero_add, Nat.sub_self, Nat.reduceAdd, Nat.reduceSub, List.replicate_succ, List.replicate_zero, List.cons_append, List.nil_append, List.append_nil, List.getElem?_cons_zero, List.getElem?_cons_succ, List.set_cons_zero, List.set_cons_succ, Option.some.injEq, exists_eq_left', DEnds.xd, atI_0, atI_1, atI_2, atI_3, atI_4, atI_5, atI_6, atI_7, ixN_50, ixN_51, ixN_52, ixN_53, ixN_54, ixN_30, ixN_31, ixN_32, put_same, put_put, true_and, and_true]
    rw [ev]
    refine ⟨by decide, mulok_l (by omega) (by omega), mulok_r (by decide) (by decide), _, ea, ?_⟩
    simp only [dSeq, dAsg, dRet, dRetN, dIfS, dNext, dDrop, dRaise, dBreak, dCont, dTest, dOp, dVar, dC, dCB, dCons, dNil, dCall, dAndV, dOrV, dNotV, dAndT, dOrT, dNotT, dIf, dTup, dLst, dSl, oSome, oNone, dNeg, gN, gT, gConsD, gNilD, gSubD, dChain, dPar, dAug, dLc, dFor, dBM, isLst, iSeqD, iR1, iR2, iR3, dYes, rdAdd, rdSub, rdMul, rdDiv, rdMod, rdPow, rdIAdd, rdCmp, rdIsN, isNon, rdEqG, rdIx, rdSet, rdSl, rdLen, rdInt1, rdInt, rdInt2, rdAppend, startN, wipeD, List.map_cons, List.map_nil, List.length_cons, List.length_nil, Nat.zero_add, Nat.sub_self, Nat.reduceAdd, Nat.reduceSub, List.replicate_succ, List.replicate_zero, List.cons_append, List.nil_append, List.append_nil, List.getElem?_cons_zero, List.getElem?_cons_succ, List.set_cons_zero, List.set_cons_succ, Option.some.injEq, exists_eq_left', DEnds.xd, atI_0, atI_1, atI_2, atI_3, atI_4, atI_5, atI_6, atI_7, ixN_50, ixN_51, ixN_52, ixN_53, ixN_54, ixN_30, ixN_31, ixN_32, put_same, put_put, true_and, and_true]
    by_cases h1 : xs[i0 + j] < 128
    · rw [if_pos (decide_eq_true h1)]
      refine ⟨_, ea, ?_⟩
      simp only [dSeq, dAsg, dRet, dRetN, dIfS, dNext, dDrop, dRaise, dBreak, dCont, dTest, dOp, dVar, dC, dCB, dCons, dNil, dCall, dAndV, dOrV, dNotV, dAndT, dOrT, dNotT, dIf, dTup, dLst, dSl, oSome, oNone, dNeg, gN, gT, gConsD, gNilD, gSubD, dChain, dPar, dAug, dLc, dFor, dBM, isLst, iSeqD, iR1, iR2, iR3, dYes, rdAdd, rdSub, rdMul, rdDiv, rdMod, rdPow, rdIAdd, rdCmp, rdIsN, isNon, rdEqG, rdIx, rdSet, rdSl, rdLen, rdInt1, rdInt, rdInt2, rdAppend, startN, wipeD, List.map_cons, List.map_nil, List.length_cons, List.length_nil, Nat.zero_add, Nat.sub_self, Nat.reduceAdd, Nat.reduceSub, List.replicate_succ, List.replicate_zero, List.cons_append, List.nil_append, List.append_nil, List.getElem?_cons_zero, List.getElem?_cons_succ, List.set_cons_zero, List.set_cons_succ, Option.some.injEq, exists_eq_left', DEnds.xd, atI_0, atI_1, atI_2, atI_3, atI_4, atI_5, atI_6, atI_7, ixN_50, ixN_51, ixN_52, ixN_53, ixN_54, ixN_30, ixN_31, ixN_32, put_same, put_put, true_and, and_true]
      have ef : fnd 10 (xs.drop i0) = some j := by
        have e1 := fnd_on j (10 - j) (xs.drop i0) hb
        rw [show 10 - j + j = 10 by omega] at e1
        rw [e1, List.drop_eq_getElem?_toList_append, ed]
        obtain ⟨k, hk⟩ : ∃ k, 10 - j = k + 1 := ⟨9 - j, by omega⟩
        rw [hk]
        show (fnd (k + 1) (xs[i0 + j] :: _)).map (· + j) = some j
        rw [fnd, if_pos h1]
        simp
      have hh : readF xs i0 = if (0 < j ∧ xs[i0 + j] = 0) ∨ 18446744073709551616 ≤ val ((xs.drop i0).take (j + 1)) then .non else .tup [.int (val ((xs.drop i0).take (j + 1))), .int ((i0 + j : Nat) + 1)] := by
        unfold readF
        rw [ef]
        dsimp only
        rw [ed]
        simp only [Option.some.injEq]
      rw [hh] at h
      have fin : ∀ c : Prop, [Decidable c] → (c ↔ ((0 < j ∧ xs[i0 + j] = 0) ∨ 18446744073709551616 ≤ val ((xs.drop i0).take (j + 1)))) → if c then Q .non T else 2 ≤ sizeLine ∧ Q (.tup [.int (val ((xs.drop i0).take (j + 1))), .int ((i0 : Int) + j + 1)]) T := by
        intro c _ hc
        by_cases h3 : c
        · rw [if_pos h3]
          rw [if_pos (hc.mp h3)] at h
          exact h
        · rw [if_neg h3]
          rw [if_neg fun z => h3 (hc.mpr z)] at h
          exact ⟨by rw [sizeLine_eq]; decide, h⟩
      by_cases h4 : xs[i0 + j] = 0
      · rw [decide_eq_true h4]
        dsimp only
        by_cases h5 : 0 < j
        · rw [if_pos (decide_eq_true (by omega))]
          exact fin True ⟨fun _ => .inl ⟨h5, h4⟩, fun _ => trivial⟩
        · rw [if_neg (by rw [decide_eq_false (by omega)]; decide)]
          exact fin _ ⟨fun z => .inr (of_decide_eq_true z), fun z => decide_eq_true (z.elim (fun y => (h5 y.1).elim) id)⟩
      · rw [decide_eq_false h4]
        dsimp only
        rw [if_neg (by decide)]
        exact fin _ ⟨fun z => .inr (of_decide_eq_true z), fun z => decide_eq_true (z.elim (fun y => (h4 y.2).elim) id)⟩
    · rw [if_neg (by rw [decide_eq_false h1]; decide)]
      rw [← Int.pow_succ]
      refine ⟨fun k hk => ?_, _, _, rfl⟩
      by_cases e : k = j
      · subst e
        exact ⟨_, ed, h1⟩
      · exact hb k (by omega)
  · obtain ⟨rfl, hb, y5, y6, rfl⟩ := hw
    rw [rangeL_len] at hb
    simp only [dSeq, dAsg, dRet, dRetN, dIfS, dNext, dDrop, dRaise, dBreak, dCont, dTest, dOp, dVar, dC, dCB, dCons, dNil, dCall, dAndV, dOrV, dNotV, dAndT, dOrT, dNotT, dIf, dTup, dLst, dSl, oSome, oNone, dNeg, gN, gT, gConsD, gNilD, gSubD, dChain, dPar, dAug, dLc, dFor, dBM, isLst, iSeqD, iR1, iR2, iR3, dYes, rdAdd, rdSub, rdMul, rdDiv, rdMod, rdPow, rdIAdd, rdCmp, rdIsN, isNon, rdEqG, rdIx, rdSet, rdSl, rdLen, rdInt1, rdInt, rdInt2, rdAppend, startN, wipeD, List.map_cons, List.map_nil, List.length_cons, List.length_nil, Nat.zero_add, Nat.sub_self, Nat.reduceAdd, Nat.reduceSub, List.replicate_succ, List.replicate_zero, List.cons_append, List.nil_append, List.append_nil, List.getElem?_cons_zero, List.getElem?_cons_succ, List.set_cons_zero, List.set_cons_succ, Option.some.injEq, exists_eq_left', DEnds.xd, atI_0, atI_1, atI_2, atI_3, atI_4, atI_5, atI_6, atI_7, ixN_50, ixN_51, ixN_52, ixN_53, ixN_54, ixN_30, ixN_31, ixN_32, put_same, put_put, true_and, and_true]
    have ef : fnd 10 (xs.drop i0) = none := by
      have hj : (m - (i0 : Int)).toNat ≤ 10 := by omega
      have e1 := fnd_on (m - (i0 : Int)).toNat (10 - (m - (i0 : Int)).toNat) (xs.drop i0) hb
      rw [show 10 - (m - (i0 : Int)).toNat + (m - (i0 : Int)).toNat = 10 by omega] at e1
      rw [e1]
      rcases hm1.2.2.2 with e | e
      · rw [List.drop_drop, List.drop_of_length_le (by omega)]
        cases 10 - (m - (i0 : Int)).toNat <;> rfl
      · rw [show 10 - (m - (i0 : Int)).toNat = 0 by omega]
        rfl
    unfold readF at h
    rw [ef] at h
    exact h
theorem rd__law_whole : Rd r__law_whole 3 sp__law_whole := by
  rintro ds S Q X ⟨n, rfl, h0, h1, h⟩
  unfold r__law_whole
  unfold dFor
  simp only [dSeq, dAsg, dRet, dRetN, dIfS, dNext, dDrop, dRaise, dBreak, dCont, dTest, dOp, dVar, dC, dCB, dCons, dNil, dCall, dAndV, dOrV, dNotV, dAndT, dOrT, dNotT, dIf, dTup, dLst, dSl, oSome, oNone, dNeg, gN, gT, gConsD, gNilD, gSubD, dChain, dPar, dAug, dLc, dFor, dBM, isLst, iSeqD, iR1, iR2, iR3, dYes, rdAdd, rdSub, rdMul, rdDiv, rdMod, rdPow, rdIAdd, rdCmp, rdIsN, isNon, rdEqG, rdIx, rdSet, rdSl, rdLen, rdInt1, rdInt, rdInt2, rdAppend, startN, wipeD, List.map_cons, List.map_nil, List.length_cons, List.length_nil, Nat.zero_add, Nat.sub_self, Nat.reduceAdd, Nat.reduceSub, List.replicate_succ, List.replicate_zero, List.cons_append, List.nil_append, List.append_nil, List.getElem?_cons_zero, List.getElem?_cons_succ, List.set_cons_zero, List.set_cons_succ, Option.some.injEq, exists_eq_left', DEnds.xd, atI_0, atI_1, atI_2, atI_3, atI_4, atI_5, atI_6, atI_7, ixN_50, ixN_51, ixN_52, ixN_53, ixN_54, ixN_30, ixN_31, ixN_32, put_same, put_put, true_and, and_true]
  refine ⟨by rw [sizeLine_eq]; decide, fun p hp => ⟨by decide, by decide, ?_⟩⟩
  have last : ∀ (pre : List Int) (l : Int) (y : Option Dv) (T : Sto), T = put S p (.lst (List.map Dv.int pre)) → pre.length ≤ 9 → pre ++ [l] = figs n →
      dRet (dCB rdTuple (dCons (dOp rdAdd (dVar 1) (dLst (dCons (dVar 0) dNil))) dNil)) { nx := fun _ S' => Q .non S', rt := Q, ex := fun c da _ S' => X c da S' } [some (.int l), some (.ref p), y] T := by
    rintro pre l y T rfl hl e
    simp only [dSeq, dAsg, dRet, dRetN, dIfS, dNext, dDrop, dRaise, dBreak, dCont, dTest, dOp, dVar, dC, dCB, dCons, dNil, dCall, dAndV, dOrV, dNotV, dAndT, dOrT, dNotT, dIf, dTup, dLst, dSl, oSome, oNone, dNeg, gN, gT, gConsD, gNilD, gSubD, dChain, dPar, dAug, dLc, dFor, dBM, isLst, iSeqD, iR1, iR2, iR3, dYes, rdAdd, rdSub, rdMul, rdDiv, rdMod, rdPow, rdIAdd, rdCmp, rdIsN, isNon, rdEqG, rdIx, rdSet, rdSl, rdLen, rdInt1, rdInt, rdInt2, rdAppend, startN, wipeD, List.map_cons, List.map_nil, List.length_cons, List.length_nil, Nat.zero_add, Nat.sub_self, Nat.reduceAdd, Nat.reduceSub, List.replicate_succ, List.replicate_zero, List.cons_append, List.nil_append, List.append_nil, List.getElem?_cons_zero, List.getElem?_cons_succ, List.set_cons_zero, List.set_cons_succ, Option.some.injEq, exists_eq_left', DEnds.xd, atI_0, atI_1, atI_2, atI_3, atI_4, atI_5, atI_6, atI_7, ixN_50, ixN_51, ixN_52, ixN_53, ixN_54, ixN_30, ixN_31, ixN_32, put_same, put_put, true_and, and_true]
    refine ⟨by rw [sizeLine_eq]; decide, fun q hq => ?_⟩
    have hpq : p ≠ q := ne_of put_same hq
    rw [put_ne hpq, put_same]
    dsimp only
    refine ⟨by rw [sizeLine_eq, List.length_map]; simp; omega, fun r hr => ?_⟩
    unfold rdTuple seqOf
    dsimp only
    rw [put_same]
    refine ⟨S, fun a m hm => ?_, ?_⟩
    · have h1 : a ≠ p := ne_of hm hp
      have h2 : a ≠ q := ne_of (S := put S p (.lst (List.map Dv.int pre))) (by rw [put_ne h1]; exact hm) hq
      have h3 : a ≠ r := ne_of (S := put (put S p (.lst (List.map Dv.int pre))) q (.lst [.int l])) (by rw [put_ne h2, put_ne h1]; exact hm) hr
      rw [put_ne h3, put_ne h2, put_ne h1]
      exact hm
    · rw [show [Dv.int l] = List.map Dv.int [l] from rfl, ← List.map_append, e]
      exact h
  refine for_go (fun i ρ T => ∃ (pre : List Int) (l : Int) (y : Option Dv), i ≤ 9 ∧ T = put S p (.lst (List.map Dv.int pre)) ∧ 0 ≤ l ∧ l < 128 ^ (9 - i + 1) ∧ pre.length = i ∧ pre ++ figF (9 - i) l = figs n ∧ ρ = [some (.int l), some (.ref p), y]) ⟨[], n, none, by decide, rfl, h0, by show n < 128 ^ (9 + 1); rw [pow_top]; omega, rfl, rfl, rfl⟩ (fun _ _ _ _ _ => trivial) (fun i x ρ T hx hw => ?_) fun ρ T hw => ?_
  · obtain ⟨pre, l, y, hi, rfl, hl0, hl1, hpm, hpre, rfl⟩ := hw
    have e0 : l < 128 → figF (9 - i) l = [l] := fun hl => by
      cases 9 - i with
      | zero => rfl
      | succ m => unfold figF; rw [if_pos hl]
    simp only [dSeq, dIfS, dTest, dOp, dVar, dC, gN, dBreak, dNext, rdCmp, rdLt, List.set_cons_succ, List.set_cons_zero, List.getElem?_cons_zero, Option.some.injEq, exists_eq_left']
    by_cases hl : l < 128
    · rw [if_pos (decide_eq_true hl)]
      exact last pre l _ _ rfl (by omega) (by rw [← e0 hl]; exact hpre)
    · rw [if_neg (by rw [decide_eq_false hl]; decide)]
      simp only [dSeq, dAsg, dRet, dRetN, dIfS, dNext, dDrop, dRaise, dBreak, dCont, dTest, dOp, dVar, dC, dCB, dCons, dNil, dCall, dAndV, dOrV, dNotV, dAndT, dOrT, dNotT, dIf, dTup, dLst, dSl, oSome, oNone, dNeg, gN, gT, gConsD, gNilD, gSubD, dChain, dPar, dAug, dLc, dFor, dBM, isLst, iSeqD, iR1, iR2, iR3, dYes, rdAdd, rdSub, rdMul, rdDiv, rdMod, rdPow, rdIAdd, rdCmp, rdIsN, isNon, rdEqG, rdIx, rdSet, rdSl, rdLen, rdInt1, rdInt, rdInt2, rdAppend, startN, wipeD, List.map_cons, List.map_nil, List.length_cons, List.length_nil, Nat.zero_add, Nat.sub_self, Nat.reduceAdd, Nat.reduceSub, List.replicate_succ, List.replicate_zero, List.cons_append, List.nil_append, List.append_nil, List.getElem?_cons_zero, List.getElem?_cons_succ, List.set_cons_zero, List.set_cons_succ, Option.some.injEq, exists_eq_left', DEnds.xd, atI_0, atI_1, atI_2, atI_3, atI_4, atI_5, atI_6, atI_7, ixN_50, ixN_51, ixN_52, ixN_53, ixN_54, ixN_30, ixN_31, ixN_32, put_same, put_put, true_and, and_true]
      obtain ⟨m, hm⟩ : ∃ m, 9 - i = m + 1 := by
        refine ⟨9 - i - 1, ?_⟩
        have : i ≠ 9 := fun z => by
          subst z
          simp at hl1
          omega
        omega
      rw [hm] at hl1 hpre
      refine ⟨by decide, by rw [sizeLine_eq, List.length_map]; omega, divp 64 (by decide) (by decide), pre ++ [l % 128 + 128], l / 128, some x, by omega, by rw [List.map_append]; rfl, by omega, ?_, by simp; omega, ?_, rfl⟩
      · rw [show 9 - (i + 1) + 1 = m + 1 by omega]
        rw [pow7] at hl1
        omega
      · rw [show 9 - (i + 1) = m by omega, ← hpre]
        conv => rhs; unfold figF
        rw [if_neg (by omega), List.append_assoc]
        rfl
  · obtain ⟨pre, l, y, hi, _⟩ := hw
    rw [rangeL_len] at hi
    exact absurd hi (by decide)
theorem fnd_here {l : List Int} {j : Nat} {b : Int} (hj : j < 10) (hb : ∀ k, k < j → ∃ b, l[k]? = some b ∧ ¬ b < 128) (e : l[j]? = some b) (h : b < 128) : fnd 10 l = some j := by
  have e1 := fnd_on j (10 - j) l hb
  rw [show 10 - j + j = 10 by omega] at e1
  rw [e1, List.drop_eq_getElem?_toList_append, e]
  obtain ⟨k, hk⟩ : ∃ k, 10 - j = k + 1 := ⟨9 - j, by omega⟩
  rw [hk]
  show (fnd (k + 1) (b :: _)).map (· + j) = some j
  rw [fnd, if_pos h]
  simp
theorem fnd_out {l : List Int} {j : Nat} (hj : j ≤ 10) (hb : ∀ k, k < j → ∃ b, l[k]? = some b ∧ ¬ b < 128) (h : l.length ≤ j ∨ j = 10) : fnd 10 l = none := by
  have e1 := fnd_on j (10 - j) l hb
  rw [show 10 - j + j = 10 by omega] at e1
  rw [e1]
  rcases h with e | e
  · rw [List.drop_of_length_le e]
    cases 10 - j <;> rfl
  · rw [show 10 - j = 0 by omega]
    rfl
theorem val_cons (b : Int) (r : List Int) : val (b :: r) = val r * 128 + b % 128 := by
  show b % 128 + 128 * val r = _
  omega
theorem rd__law_read : Rd r__law_read 5 sp__law_read := by
  rintro ds S Q X ⟨xs, i0, ⟨rfl, hr, hi⟩, h⟩
  unfold r__law_read
  have hr1 := hr.1
  have hget : ∀ j : Nat, (xs.drop i0)[j]? = xs[i0 + j]? := fun j => by rw [List.getElem?_drop]
  have hdl : (xs.drop i0).length = xs.length - i0 := List.length_drop
  have c64 : CPow 2 64 := ⟨by decide, by decide, by decide⟩
  have e64 : (2 : Int) ^ Int.toNat 64 = 18446744073709551616 := by decide
  have atx : ∀ j : Nat, (hlt : i0 + j < xs.length) → atI (List.map Dv.int xs) ((i0 : Int) + (j : Int)) = some (.int xs[i0 + j]) := fun j hlt => by
    rw [atI_nn (by omega), show ((i0 : Int) + (j : Int)).toNat = i0 + j by omega, List.getElem?_map, List.getElem?_eq_getElem hlt]
    rfl
  refine cut_seq (fun ρ T => T = S ∧ readF xs i0 = .non ∧ ∃ y2 y3 y4, ρ = [some (.tup (List.map Dv.int xs)), some (.int (i0 : Int)), y2, y3, y4]) (fun N hN => ?_) (fun ρ T hM => ?_)
  · unfold dFor
    simp only [dIfS, dTest, dOp, dVar, dC, dCB, dCons, dNil, dCall, dAndV, dOrV, dNotV, dAndT, dOrT, dNotT, dIf, dTup, dLst, dSl, oSome, oNone, dNeg, gN, gT, gConsD, gNilD, gSubD, dChain, dLc, dBM, isLst, iSeqD, iR1, iR2, iR3, dYes, rdAdd, rdSub, rdMul, rdDiv, rdMod, rdPow, rdIAdd, rdCmp, rdIsN, isNon, rdEqG, rdIx_tup, rdIx_rol, rdSet, rdSl, rdLen, rdInt1, rdInt, rdInt2, rdAppend, startN, wipeD, List.map_cons, List.map_nil, List.length_cons, List.length_nil, Nat.zero_add, Nat.sub_self, Nat.reduceAdd, Nat.reduceSub, List.replicate_succ, List.replicate_zero, List.cons_append, List.nil_append, List.append_nil, List.getElem?_cons_zero, List.getElem?_cons_succ, List.set_cons_zero, List.set_cons_succ, Option.some.injEq, exists_eq_left', DEnds.xd, atI_0, atI_1, atI_2, atI_3, atI_4, atI_5, atI_6, atI_7, ixN_50, ixN_51, ixN_52, ixN_53, ixN_54, ixN_30, ixN_31, ixN_32, put_same, put_put, true_and, and_true, rdIsB, isBlV, rdStrI, rdIntS, rdMulS, dDict0, dDict1, decide_true, decide_false, Bool.not_true, Bool.not_false, Bool.false_eq_true, if_true, if_false]
    refine ⟨by decide, by decide, ?_⟩
    refine for_go (fun j ρ T => T = S ∧ (∀ k, k < j → ∃ b, (xs.drop i0)[k]? = some b ∧ ¬ b < 128) ∧ ∃ y2 y3 y4, ρ = [some (.tup (List.map Dv.int xs)), some (.int (i0 : Int)), y2, y3, y4]) ⟨rfl, fun k hk => by omega, none, none, none, rfl⟩ (fun _ _ _ _ _ => trivial) (fun j x ρ T hx hw => ?_) fun ρ T hw => ?_
    · obtain ⟨rfl, hb, y2, y3, y4, rfl⟩ := hw
      obtain ⟨hj, rfl⟩ := rangeL_mem hx
      have hj10 : j < 10 := hj
      rw [Int.zero_add]
      simp only [dIfS, dTest, dOp, dVar, dC, dCB, dCons, dNil, dCall, dAndV, dOrV, dNotV, dAndT, dOrT, dNotT, dIf, dTup, dLst, dSl, oSome, oNone, dNeg, gN, gT, gConsD, gNilD, gSubD, dChain, dLc, dBM, isLst, iSeqD, iR1, iR2, iR3, dYes, rdAdd, rdSub, rdMul, rdDiv, rdMod, rdPow, rdIAdd, rdCmp, rdIsN, isNon, rdEqG, rdIx_tup, rdIx_rol, rdSet, rdSl, rdLen, rdInt1, rdInt, rdInt2, rdAppend, startN, wipeD, List.map_cons, List.map_nil, List.length_cons, List.length_nil, Nat.zero_add, Nat.sub_self, Nat.reduceAdd, Nat.reduceSub, List.replicate_succ, List.replicate_zero, List.cons_append, List.nil_append, List.append_nil, List.getElem?_cons_zero, List.getElem?_cons_succ, List.set_cons_zero, List.set_cons_succ, Option.some.injEq, exists_eq_left', DEnds.xd, atI_0, atI_1, atI_2, atI_3, atI_4, atI_5, atI_6, atI_7, ixN_50, ixN_51, ixN_52, ixN_53, ixN_54, ixN_30, ixN_31, ixN_32, put_same, put_put, true_and, and_true, rdIsB, isBlV, rdStrI, rdIntS, rdMulS, dDict0, dDict1, decide_true, decide_false, Bool.not_true, Bool.not_false, Bool.false_eq_true, if_true, if_false]
      refine cut_seq (fun ρ U => U = T ∧ i0 + j < xs.length ∧ ρ = [some (.tup (List.map Dv.int xs)), some (.int (i0 : Int)), some (.int (j : Int)), y3, y4]) (fun N2 hN2 => ?_) (fun ρ U hM => ?_)
      · simp only [dSeq, dAsg, dRet, dRetN, dIfS, dNext, dDrop, dRaise, dBreak, dCont, dTest, dOp, dVar, dC, dCB, dCons, dNil, dCall, dAndV, dOrV, dNotV, dAndT, dOrT, dNotT, dIf, dTup, dLst, dSl, oSome, oNone, dNeg, gN, gT, gConsD, gNilD, gSubD, dChain, dPar, dAug, dLc, dFor, dBM, isLst, iSeqD, iR1, iR2, iR3, dYes, rdAdd, rdSub, rdMul, rdDiv, rdMod, rdPow, rdIAdd, rdCmp, rdIsN, isNon, rdEqG, rdIx_tup, rdIx_rol, rdSet, rdSl, rdLen, rdInt1, rdInt, rdInt2, rdAppend, startN, wipeD, List.map_cons, List.map_nil, List.length_cons, List.length_nil, Nat.zero_add, Nat.sub_self, Nat.reduceAdd, Nat.reduceSub, List.replicate_succ, List.replicate_zero, List.cons_append, List.nil_append, List.append_nil, List.getElem?_cons_zero, List.getElem?_cons_succ, List.set_cons_zero, List.set_cons_succ, Option.some.injEq, exists_eq_left', DEnds.xd, atI_0, atI_1, atI_2, atI_3, atI_4, atI_5, atI_6, atI_7, ixN_50, ixN_51, ixN_52, ixN_53, ixN_54, ixN_30, ixN_31, ixN_32, put_same, put_put, true_and, and_true, rdIsB, isBlV, rdStrI, rdIntS, rdMulS, dDict0, dDict1, dTry, wD, decide_true, decide_false, Bool.not_true, Bool.not_false, Bool.false_eq_true, if_true, if_false]
        rw [List.length_map]
        by_cases h1 : (xs.length : Int) ≤ (i0 : Int) + j
        · rw [if_pos (decide_eq_true h1)]
          have e := fnd_out (l := xs.drop i0) (by omega) hb (.inl (by omega))
          unfold readF at h
          rw [e] at h
          exact h
        · rw [if_neg (by rw [decide_eq_false h1]; decide)]
          exact hN2 _ _ ⟨rfl, by omega, rfl⟩
      obtain ⟨rfl, hlt, rfl⟩ := hM
      have ea := atx j hlt
      have eb := hr.2 _ (List.getElem_mem hlt)
      have ed : (xs.drop i0)[j]? = some xs[i0 + j] := by rw [hget, List.getElem?_eq_getElem hlt]
      simp only [dIfS, dTest, dOp, dVar, dC, dCB, dCons, dNil, dCall, dAndV, dOrV, dNotV, dAndT, dOrT, dNotT, dIf, dTup, dLst, dSl, oSome, oNone, dNeg, gN, gT, gConsD, gNilD, gSubD, dChain, dLc, dBM, isLst, iSeqD, iR1, iR2, iR3, dYes, rdAdd, rdSub, rdMul, rdDiv, rdMod, rdPow, rdIAdd, rdCmp, rdIsN, isNon, rdEqG, rdIx_tup, rdIx_rol, rdSet, rdSl, rdLen, rdInt1, rdInt, rdInt2, rdAppend, startN, wipeD, List.map_cons, List.map_nil, List.length_cons, List.length_nil, Nat.zero_add, Nat.sub_self, Nat.reduceAdd, Nat.reduceSub, List.replicate_succ, List.replicate_zero, List.cons_append, List.nil_append, List.append_nil, List.getElem?_cons_zero, List.getElem?_cons_succ, List.set_cons_zero, List.set_cons_succ, Option.some.injEq, exists_eq_left', DEnds.xd, atI_0, atI_1, atI_2, atI_3, atI_4, atI_5, atI_6, atI_7, ixN_50, ixN_51, ixN_52, ixN_53, ixN_54, ixN_30, ixN_31, ixN_32, put_same, put_put, true_and, and_true, rdIsB, isBlV, rdStrI, rdIntS, rdMulS, dDict0, dDict1, decide_true, decide_false, Bool.not_true, Bool.not_false, Bool.false_eq_true, if_true, if_false]
      refine ⟨_, ea, ?_⟩
      simp only [dIfS, dTest, dOp, dVar, dC, dCB, dCons, dNil, dCall, dAndV, dOrV, dNotV, dAndT, dOrT, dNotT, dIf, dTup, dLst, dSl, oSome, oNone, dNeg, gN, gT, gConsD, gNilD, gSubD, dChain, dLc, dBM, isLst, iSeqD, iR1, iR2, iR3, dYes, rdAdd, rdSub, rdMul, rdDiv, rdMod, rdPow, rdIAdd, rdCmp, rdIsN, isNon, rdEqG, rdIx_tup, rdIx_rol, rdSet, rdSl, rdLen, rdInt1, rdInt, rdInt2, rdAppend, startN, wipeD, List.map_cons, List.map_nil, List.length_cons, List.length_nil, Nat.zero_add, Nat.sub_self, Nat.reduceAdd, Nat.reduceSub, List.replicate_succ, List.replicate_zero, List.cons_append, List.nil_append, List.append_nil, List.getElem?_cons_zero, List.getElem?_cons_succ, List.set_cons_zero, List.set_cons_succ, Option.some.injEq, exists_eq_left', DEnds.xd, atI_0, atI_1, atI_2, atI_3, atI_4, atI_5, atI_6, atI_7, ixN_50, ixN_51, ixN_52, ixN_53, ixN_54, ixN_30, ixN_31, ixN_32, put_same, put_put, true_and, and_true, rdIsB, isBlV, rdStrI, rdIntS, rdMulS, dDict0, dDict1, decide_true, decide_false, Bool.not_true, Bool.not_false, Bool.false_eq_true, if_true, if_false]
      by_cases h1 : xs[i0 + j] < 128
      · rw [if_pos (decide_eq_true h1)]
        have ef := fnd_here hj10 hb ed h1
        have hh : readF xs i0 = if (0 < j ∧ xs[i0 + j] = 0) ∨ 18446744073709551616 ≤ val ((xs.drop i0).take (j + 1)) then .non else .tup [.int (val ((xs.drop i0).take (j + 1))), .int ((i0 + j : Nat) + 1)] := by
          unfold readF
          rw [ef]
          dsimp only
          rw [ed]
          simp only [Option.some.injEq]
        rw [hh] at h
        refine cut_seq (fun ρ U' => U' = U ∧ ¬ (0 < j ∧ xs[i0 + j] = 0) ∧ ρ = [some (.tup (List.map Dv.int xs)), some (.int (i0 : Int)), some (.int (j : Int)), y3, y4]) (fun N2 hN2 => ?_) (fun ρ U' hM => ?_)
        · simp only [dSeq, dAsg, dRet, dRetN, dIfS, dNext, dDrop, dRaise, dBreak, dCont, dTest, dOp, dVar, dC, dCB, dCons, dNil, dCall, dAndV, dOrV, dNotV, dAndT, dOrT, dNotT, dIf, dTup, dLst, dSl, oSome, oNone, dNeg, gN, gT, gConsD, gNilD, gSubD, dChain, dPar, dAug, dLc, dFor, dBM, isLst, iSeqD, iR1, iR2, iR3, dYes, rdAdd, rdSub, rdMul, rdDiv, rdMod, rdPow, rdIAdd, rdCmp, rdIsN, isNon, rdEqG, rdIx_tup, rdIx_rol, rdSet, rdSl, rdLen, rdInt1, rdInt, rdInt2, rdAppend, startN, wipeD, List.map_cons, List.map_nil, List.length_cons, List.length_nil, Nat.zero_add, Nat.sub_self, Nat.reduceAdd, Nat.reduceSub, List.replicate_succ, List.replicate_zero, List.cons_append, List.nil_append, List.append_nil, List.getElem?_cons_zero, List.getElem?_cons_succ, List.set_cons_zero, List.set_cons_succ, Option.some.injEq, exists_eq_left', DEnds.xd, atI_0, atI_1, atI_2, atI_3, atI_4, atI_5, atI_6, atI_7, ixN_50, ixN_51, ixN_52, ixN_53, ixN_54, ixN_30, ixN_31, ixN_32, put_same, put_put, true_and, and_true, rdIsB, isBlV, rdStrI, rdIntS, rdMulS, dDict0, dDict1, dTry, wD, decide_true, decide_false, Bool.not_true, Bool.not_false, Bool.false_eq_true, if_true, if_false]
          by_cases h2 : (0 : Int) < j
          · rw [if_pos (decide_eq_true h2)]
            refine ⟨_, ea, ?_⟩
            simp only [dSeq, dAsg, dRet, dRetN, dIfS, dNext, dDrop, dRaise, dBreak, dCont, dTest, dOp, dVar, dC, dCB, dCons, dNil, dCall, dAndV, dOrV, dNotV, dAndT, dOrT, dNotT, dIf, dTup, dLst, dSl, oSome, oNone, dNeg, gN, gT, gConsD, gNilD, gSubD, dChain, dPar, dAug, dLc, dFor, dBM, isLst, iSeqD, iR1, iR2, iR3, dYes, rdAdd, rdSub, rdMul, rdDiv, rdMod, rdPow, rdIAdd, rdCmp, rdIsN, isNon, rdEqG, rdIx_tup, rdIx_rol, rdSet, rdSl, rdLen, rdInt1, rdInt, rdInt2, rdAppend, startN, wipeD, List.map_cons, List.map_nil, List.length_cons, List.length_nil, Nat.zero_add, Nat.sub_self, Nat.reduceAdd, Nat.reduceSub, List.replicate_succ, List.replicate_zero, List.cons_append, List.nil_append, List.append_nil, List.getElem?_cons_zero, List.getElem?_cons_succ, List.set_cons_zero, List.set_cons_succ, Option.some.injEq, exists_eq_left', DEnds.xd, atI_0, atI_1, atI_2, atI_3, atI_4, atI_5, atI_6, atI_7, ixN_50, ixN_51, ixN_52, ixN_53, ixN_54, ixN_30, ixN_31, ixN_32, put_same, put_put, true_and, and_true, rdIsB, isBlV, rdStrI, rdIntS, rdMulS, dDict0, dDict1, dTry, wD, decide_true, decide_false, Bool.not_true, Bool.not_false, Bool.false_eq_true, if_true, if_false]
            by_cases h3 : xs[i0 + j] = 0
            · rw [if_pos (decide_eq_true h3)]
              rw [if_pos (.inl ⟨by omega, h3⟩)] at h
              exact h
            · rw [if_neg (by rw [decide_eq_false h3]; decide)]
              exact hN2 _ _ ⟨rfl, fun z => h3 z.2, rfl⟩
          · rw [if_neg (by rw [decide_eq_false h2]; decide)]
            exact hN2 _ _ ⟨rfl, fun z => h2 (by omega), rfl⟩
        obtain ⟨rfl, hnz, rfl⟩ := hM
        refine cut_seq (fun ρ U => U = U' ∧ ρ = [some (.tup (List.map Dv.int xs)), some (.int (i0 : Int)), some (.int (j : Int)), some (.int 0), y4]) (fun N2 hN2 => ?_) (fun ρ U hM => ?_)
        · simp only [dSeq, dAsg, dRet, dRetN, dIfS, dNext, dDrop, dRaise, dBreak, dCont, dTest, dOp, dVar, dC, dCB, dCons, dNil, dCall, dAndV, dOrV, dNotV, dAndT, dOrT, dNotT, dIf, dTup, dLst, dSl, oSome, oNone, dNeg, gN, gT, gConsD, gNilD, gSubD, dChain, dPar, dAug, dLc, dFor, dBM, isLst, iSeqD, iR1, iR2, iR3, dYes, rdAdd, rdSub, rdMul, rdDiv, rdMod, rdPow, rdIAdd, rdCmp, rdIsN, isNon, rdEqG, rdIx_tup, rdIx_rol, rdSet, rdSl, rdLen, rdInt1, rdInt, rdInt2, rdAppend, startN, wipeD, List.map_cons, List.map_nil, List.length_cons, List.length_nil, Nat.zero_add, Nat.sub_self, Nat.reduceAdd, Nat.reduceSub, List.replicate_succ, List.replicate_zero, List.cons_append, List.nil_append, List.append_nil, List.getElem?_cons_zero, List.getElem?_cons_succ, List.set_cons_zero, List.set_cons_succ, Option.some.injEq, exists_eq_left', DEnds.xd, atI_0, atI_1, atI_2, atI_3, atI_4, atI_5, atI_6, atI_7, ixN_50, ixN_51, ixN_52, ixN_53, ixN_54, ixN_30, ixN_31, ixN_32, put_same, put_put, true_and, and_true, rdIsB, isBlV, rdStrI, rdIntS, rdMulS, dDict0, dDict1, dTry, wD, decide_true, decide_false, Bool.not_true, Bool.not_false, Bool.false_eq_true, if_true, if_false]
          exact hN2 _ _ ⟨rfl, rfl⟩
        obtain ⟨rfl, rfl⟩ := hM
        refine cut_seq (fun ρ U' => U' = U ∧ ∃ y4, ρ = [some (.tup (List.map Dv.int xs)), some (.int (i0 : Int)), some (.int (j : Int)), some (.int (val ((xs.drop i0).take (j + 1)))), y4]) (fun N2 hN2 => ?_) (fun ρ U' hM => ?_)
        · try unfold dFor
          simp only [dIfS, dTest, dOp, dVar, dC, dCB, dCons, dNil, dCall, dAndV, dOrV, dNotV, dAndT, dOrT, dNotT, dIf, dTup, dLst, dSl, oSome, oNone, dNeg, gN, gT, gConsD, gNilD, gSubD, dChain, dLc, dBM, isLst, iSeqD, iR1, iR2, iR3, dYes, rdAdd, rdSub, rdMul, rdDiv, rdMod, rdPow, rdIAdd, rdCmp, rdIsN, isNon, rdEqG, rdIx_tup, rdIx_rol, rdSet, rdSl, rdLen, rdInt1, rdInt, rdInt2, rdAppend, startN, wipeD, List.map_cons, List.map_nil, List.length_cons, List.length_nil, Nat.zero_add, Nat.sub_self, Nat.reduceAdd, Nat.reduceSub, List.replicate_succ, List.replicate_zero, List.cons_append, List.nil_append, List.append_nil, List.getElem?_cons_zero, List.getElem?_cons_succ, List.set_cons_zero, List.set_cons_succ, Option.some.injEq, exists_eq_left', DEnds.xd, atI_0, atI_1, atI_2, atI_3, atI_4, atI_5, atI_6, atI_7, ixN_50, ixN_51, ixN_52, ixN_53, ixN_54, ixN_30, ixN_31, ixN_32, put_same, put_put, true_and, and_true, rdIsB, isBlV, rdStrI, rdIntS, rdMulS, dDict0, dDict1, decide_true, decide_false, Bool.not_true, Bool.not_false, Bool.false_eq_true, if_true, if_false]
          refine ⟨_, RgC.neg (by omega) (by omega) (by omega) (by omega), ?_⟩
          rw [show ((i0 : Int) + j - (i0 - 1)).toNat = j + 1 by omega]
          have hlen : ((xs.drop i0).take (j + 1)).length = j + 1 := by rw [List.length_take, hdl]; omega
          refine for_go (fun m ρ T => T = U ∧ m ≤ j + 1 ∧ ∃ y4, ρ = [some (.tup (List.map Dv.int xs)), some (.int (i0 : Int)), some (.int (j : Int)), some (.int (val (((xs.drop i0).take (j + 1)).drop (j + 1 - m)))), y4]) ⟨rfl, by omega, y4, ?_⟩ (fun _ _ _ _ _ => trivial) (fun m x ρ T hx hw => ?_) fun ρ T hw => ?_
          · rw [List.drop_of_length_le (by omega)]
            rfl
          · obtain ⟨rfl, hm, y4, rfl⟩ := hw
            obtain ⟨hm2, rfl⟩ := rangeL_get hx
            have e1 : ((i0 : Int) + j + (m : Int) * -1) = (i0 : Int) + ((j - m : Nat) : Int) := by omega
            rw [e1]
            have hlt2 : i0 + (j - m) < xs.length := by omega
            simp only [dSeq, dAsg, dRet, dRetN, dIfS, dNext, dDrop, dRaise, dBreak, dCont, dTest, dOp, dVar, dC, dCB, dCons, dNil, dCall, dAndV, dOrV, dNotV, dAndT, dOrT, dNotT, dIf, dTup, dLst, dSl, oSome, oNone, dNeg, gN, gT, gConsD, gNilD, gSubD, dChain, dPar, dAug, dLc, dFor, dBM, isLst, iSeqD, iR1, iR2, iR3, dYes, rdAdd, rdSub, rdMul, rdDiv, rdMod, rdPow, rdIAdd, rdCmp, rdIsN, isNon, rdEqG, rdIx_tup, rdIx_rol, rdSet, rdSl, rdLen, rdInt1, rdInt, rdInt2, rdAppend, startN, wipeD, List.map_cons, List.map_nil, List.length_cons, List.length_nil, Nat.zero_add, Nat.sub_self, Nat.reduceAdd, Nat.reduceSub, List.replicate_succ, List.replicate_zero, List.cons_append, List.nil_append, List.append_nil, List.getElem?_cons_zero, List.getElem?_cons_succ, List.set_cons_zero, List.set_cons_succ, Option.some.injEq, exists_eq_left', DEnds.xd, atI_0, atI_1, atI_2, atI_3, atI_4, atI_5, atI_6, atI_7, ixN_50, ixN_51, ixN_52, ixN_53, ixN_54, ixN_30, ixN_31, ixN_32, put_same, put_put, true_and, and_true, rdIsB, isBlV, rdStrI, rdIntS, rdMulS, dDict0, dDict1, dTry, wD, decide_true, decide_false, Bool.not_true, Bool.not_false, Bool.false_eq_true, if_true, if_false]
            refine ⟨mulok_r (by decide) (by decide), _, atx _ hlt2, ?_⟩
            simp only [dSeq, dAsg, dRet, dRetN, dIfS, dNext, dDrop, dRaise, dBreak, dCont, dTest, dOp, dVar, dC, dCB, dCons, dNil, dCall, dAndV, dOrV, dNotV, dAndT, dOrT, dNotT, dIf, dTup, dLst, dSl, oSome, oNone, dNeg, gN, gT, gConsD, gNilD, gSubD, dChain, dPar, dAug, dLc, dFor, dBM, isLst, iSeqD, iR1, iR2, iR3, dYes, rdAdd, rdSub, rdMul, rdDiv, rdMod, rdPow, rdIAdd, rdCmp, rdIsN, isNon, rdEqG, rdIx_tup, rdIx_rol, rdSet, rdSl, rdLen, rdInt1, rdInt, rdInt2, rdAppend, startN, wipeD, List.map_cons, List.map_nil, List.length_cons, List.length_nil, Nat.zero_add, Nat.sub_self, Nat.reduceAdd, Nat.reduceSub, List.replicate_succ, List.replicate_zero, List.cons_append, List.nil_append, List.append_nil, List.getElem?_cons_zero, List.getElem?_cons_succ, List.set_cons_zero, List.set_cons_succ, Option.some.injEq, exists_eq_left', DEnds.xd, atI_0, atI_1, atI_2, atI_3, atI_4, atI_5, atI_6, atI_7, ixN_50, ixN_51, ixN_52, ixN_53, ixN_54, ixN_30, ixN_31, ixN_32, put_same, put_put, true_and, and_true, rdIsB, isBlV, rdStrI, rdIntS, rdMulS, dDict0, dDict1, dTry, wD, decide_true, decide_false, Bool.not_true, Bool.not_false, Bool.false_eq_true, if_true, if_false]
            refine ⟨by decide, by omega, some (.int ((i0 : Int) + ((j - m : Nat) : Int))), ?_⟩
            have e2 : ((xs.drop i0).take (j + 1)).drop (j + 1 - (m + 1)) = xs[i0 + (j - m)] :: ((xs.drop i0).take (j + 1)).drop (j + 1 - m) := by
              have hlt3 : j + 1 - (m + 1) < ((xs.drop i0).take (j + 1)).length := by omega
              rw [List.drop_eq_getElem_cons hlt3]
              congr 1
              · rw [List.getElem_take, List.getElem_drop]
                congr 1
                omega
              · congr 1
                omega
            rw [e2]
            rw [val_cons]
          · obtain ⟨rfl, hm, y4, rfl⟩ := hw
            rw [rangeL_len, Nat.sub_self, List.drop_zero] at *
            exact hN2 _ _ ⟨rfl, y4, rfl⟩
        obtain ⟨rfl, y4, rfl⟩ := hM
        simp only [dSeq, dAsg, dRet, dRetN, dIfS, dNext, dDrop, dRaise, dBreak, dCont, dTest, dOp, dVar, dC, dCB, dCons, dNil, dCall, dAndV, dOrV, dNotV, dAndT, dOrT, dNotT, dIf, dTup, dLst, dSl, oSome, oNone, dNeg, gN, gT, gConsD, gNilD, gSubD, dChain, dPar, dAug, dLc, dFor, dBM, isLst, iSeqD, iR1, iR2, iR3, dYes, rdAdd, rdSub, rdMul, rdDiv, rdMod, rdPow, rdIAdd, rdCmp, rdIsN, isNon, rdEqG, rdIx_tup, rdIx_rol, rdSet, rdSl, rdLen, rdInt1, rdInt, rdInt2, rdAppend, startN, wipeD, List.map_cons, List.map_nil, List.length_cons, List.length_nil, Nat.zero_add, Nat.sub_self, Nat.reduceAdd, Nat.reduceSub, List.replicate_succ, List.replicate_zero, List.cons_append, List.nil_append, List.append_nil, List.getElem?_cons_zero, List.getElem?_cons_succ, List.set_cons_zero, List.set_cons_succ, Option.some.injEq, exists_eq_left', DEnds.xd, atI_0, atI_1, atI_2, atI_3, atI_4, atI_5, atI_6, atI_7, ixN_50, ixN_51, ixN_52, ixN_53, ixN_54, ixN_30, ixN_31, ixN_32, put_same, put_put, true_and, and_true, rdIsB, isBlV, rdStrI, rdIntS, rdMulS, dDict0, dDict1, dTry, wD, decide_true, decide_false, Bool.not_true, Bool.not_false, Bool.false_eq_true, if_true, if_false]
        rw [e64]
        refine ⟨c64, ?_⟩
        by_cases h5 : 18446744073709551616 ≤ val ((xs.drop i0).take (j + 1))
        · rw [if_pos (decide_eq_true h5)]
          rw [if_pos (.inr h5)] at h
          exact h
        · rw [if_neg (by rw [decide_eq_false h5]; decide)]
          rw [if_neg (fun z => z.elim hnz h5)] at h
          exact ⟨by decide, h⟩
      · rw [if_neg (by rw [decide_eq_false h1]; decide)]
        refine ⟨rfl, fun k hk => ?_, _, _, _, rfl⟩
        by_cases e : k = j
        · subst e
          exact ⟨_, ed, h1⟩
        · exact hb k (by omega)
    · obtain ⟨rfl, hb, y2, y3, y4, rfl⟩ := hw
      rw [rangeL_len] at hb
      refine hN _ _ ⟨rfl, ?_, _, _, _, rfl⟩
      have e := fnd_out (l := xs.drop i0) (by decide) hb (.inr rfl)
      unfold readF
      rw [e]
  obtain ⟨rfl, e, y2, y3, y4, rfl⟩ := hM
  rw [e] at h
  simp only [dSeq, dAsg, dRet, dRetN, dIfS, dNext, dDrop, dRaise, dBreak, dCont, dTest, dOp, dVar, dC, dCB, dCons, dNil, dCall, dAndV, dOrV, dNotV, dAndT, dOrT, dNotT, dIf, dTup, dLst, dSl, oSome, oNone, dNeg, gN, gT, gConsD, gNilD, gSubD, dChain, dPar, dAug, dLc, dFor, dBM, isLst, iSeqD, iR1, iR2, iR3, dYes, rdAdd, rdSub, rdMul, rdDiv, rdMod, rdPow, rdIAdd, rdCmp, rdIsN, isNon, rdEqG, rdIx_tup, rdIx_rol, rdSet, rdSl, rdLen, rdInt1, rdInt, rdInt2, rdAppend, startN, wipeD, List.map_cons, List.map_nil, List.length_cons, List.length_nil, Nat.zero_add, Nat.sub_self, Nat.reduceAdd, Nat.reduceSub, List.replicate_succ, List.replicate_zero, List.cons_append, List.nil_append, List.append_nil, List.getElem?_cons_zero, List.getElem?_cons_succ, List.set_cons_zero, List.set_cons_succ, Option.some.injEq, exists_eq_left', DEnds.xd, atI_0, atI_1, atI_2, atI_3, atI_4, atI_5, atI_6, atI_7, ixN_50, ixN_51, ixN_52, ixN_53, ixN_54, ixN_30, ixN_31, ixN_32, put_same, put_put, true_and, and_true, rdIsB, isBlV, rdStrI, rdIntS, rdMulS, dDict0, dDict1, dTry, wD, decide_true, decide_false, Bool.not_true, Bool.not_false, Bool.false_eq_true, if_true, if_false]
  exact h
end Lw

namespace Lw
open PySem PySem.Spec PyProof.Rows L2 VD
theorem resF_plus (k d : Nat) (one ch found : List Int) (here i : Nat) (hi : i ≤ ch.length) (hk : ch.length - i < k) : resF (k + d) one ch found here i = resF k one ch found here i := by
  induction d with
  | zero => rfl
  | succ d ih => rw [← Nat.add_assoc, resF_more (k + d) one ch found here i hi (by omega), ih]
theorem resF_any {k k' : Nat} {one ch found : List Int} {here i : Nat} (hi : i ≤ ch.length) (hk : ch.length - i < k) (hk' : ch.length - i < k') : resF k one ch found here i = resF k' one ch found here i := by
  rcases Nat.le_total k k' with h | h
  · obtain ⟨d, rfl⟩ := Nat.le.dest h
    exact (resF_plus k d one ch found here i hi hk).symm
  · obtain ⟨d, rfl⟩ := Nat.le.dest h
    exact resF_plus k' d one ch found here i hi hk'
theorem cut_mid {xs : List Dv} {i j : Int} (h0 : 0 ≤ i) (h1 : i ≤ j) (h2 : j ≤ xs.length) : VD.cutD xs (some i) (some j) = (xs.drop i.toNat).take (j.toNat - i.toNat) := by
  obtain ⟨n, rfl⟩ := Int.eq_ofNat_of_zero_le h0
  obtain ⟨m, rfl⟩ := Int.eq_ofNat_of_zero_le (by omega : 0 ≤ j)
  unfold VD.cutD
  rw [HT.sIx_nat, HT.sIx_nat]
  have e1 : min n xs.length = n := by omega
  have e2 : min m xs.length = m := by omega
  rw [e1, e2]
  rfl
theorem rd_part_at : Rd r_part_at 7 sp_part_at := by
  rintro ds S Q X ⟨xs, i, ⟨rfl, hr, hi⟩, h⟩
  unfold r_part_at
  simp only [dSeq, dAsg, dRet, dRetN, dIfS, dNext, dDrop, dRaise, dBreak, dCont, dTest, dOp, dVar, dC, dCB, dCons, dNil, dCall, dAndV, dOrV, dNotV, dAndT, dOrT, dNotT, dIf, dTup, dLst, dSl, oSome, oNone, dNeg, gN, gT, gConsD, gNilD, gSubD, dChain, dPar, dAug, dLc, dFor, dBM, isLst, iSeqD, iR1, iR2, iR3, dYes, rdAdd, rdSub, rdMul, rdDiv, rdMod, rdPow, rdIAdd, rdCmp, rdIsN, isNon, rdEqG, rdIx, rdSet, rdSl, rdLen, rdInt1, rdInt, rdInt2, rdAppend, startN, wipeD, List.map_cons, List.map_nil, List.length_cons, List.length_nil, Nat.zero_add, Nat.sub_self, Nat.reduceAdd, Nat.reduceSub, List.replicate_succ, List.replicate_zero, List.cons_append, List.nil_append, List.append_nil, List.getElem?_cons_zero, List.getElem?_cons_succ, List.set_cons_zero, List.set_cons_succ, Option.some.injEq, exists_eq_left', DEnds.xd, atI_0, atI_1, atI_2, atI_3, atI_4, atI_5, atI_6, atI_7, ixN_50, ixN_51, ixN_52, ixN_53, ixN_54, ixN_30, ixN_31, ixN_32, put_same, put_put, true_and, and_true]
  refine ⟨xs, i, ⟨rfl, hr, hi⟩, ?_⟩
  rw [readF_rdO]
  unfold partO at h
  cases e : rdO xs i with
  | none => rw [e] at h; exact h
  | some p =>
    obtain ⟨v, b⟩ := p
    rw [e] at h
    dsimp only at h ⊢
    refine iteF ⟨rfl, ?_⟩
    try simp only [dSeq, dAsg, dRet, dRetN, dIfS, dNext, dDrop, dRaise, dBreak, dCont, dTest, dOp, dVar, dC, dCB, dCons, dNil, dCall, dAndV, dOrV, dNotV, dAndT, dOrT, dNotT, dIf, dTup, dLst, dSl, oSome, oNone, dNeg, gN, gT, gConsD, gNilD, gSubD, dChain, dPar, dAug, dLc, dFor, dBM, isLst, iSeqD, iR1, iR2, iR3, dYes, rdAdd, rdSub, rdMul, rdDiv, rdMod, rdPow, rdIAdd, rdCmp, rdIsN, isNon, rdEqG, rdIx, rdSet, rdSl, rdLen, rdInt1, rdInt, rdInt2, rdAppend, startN, wipeD, List.map_cons, List.map_nil, List.length_cons, List.length_nil, Nat.zero_add, Nat.sub_self, Nat.reduceAdd, Nat.reduceSub, List.replicate_succ, List.replicate_zero, List.cons_append, List.nil_append, List.append_nil, List.getElem?_cons_zero, List.getElem?_cons_succ, List.set_cons_zero, List.set_cons_succ, Option.some.injEq, exists_eq_left', DEnds.xd, atI_0, atI_1, atI_2, atI_3, atI_4, atI_5, atI_6, atI_7, ixN_50, ixN_51, ixN_52, ixN_53, ixN_54, ixN_30, ixN_31, ixN_32, put_same, put_put, true_and, and_true]
    refine ⟨by decide, divp 64 (by decide) (by decide), ?_⟩
    have e1 : (v : Int) % 3 = ((v % 3 : Nat) : Int) := by omega
    have e2 : (v : Int) / 3 = ((v / 3 : Nat) : Int) := by omega
    rw [e1, e2, List.length_map]
    by_cases h1 : v / 3 = 0
    · rw [if_pos (decide_eq_true (by omega))]
      rw [if_pos (.inl h1)] at h
      exact h
    · rw [if_neg (by rw [decide_eq_false (by omega)]; decide)]
      by_cases h2 : v % 3 = 2
      · rw [if_pos (decide_eq_true (by omega))]
        by_cases h3 : xs.length < b + v / 3
        · rw [if_pos (decide_eq_true (by omega))]
          rw [if_pos (.inr ⟨h2, h3⟩)] at h
          exact h
        · rw [if_neg (by rw [decide_eq_false (by omega)]; decide)]
          rw [if_neg (fun z => z.elim h1 fun y => h3 y.2)] at h
          exact ⟨by rw [sizeLine_eq]; decide, h⟩
      · rw [if_neg (by rw [decide_eq_false (by omega)]; decide)]
        rw [if_neg (fun z => z.elim h1 fun y => h2 y.1)] at h
        exact ⟨by rw [sizeLine_eq]; decide, h⟩
theorem sr.ok {xs : List Int} (h : sr xs) : rowOk xs := ⟨by have := h.1; omega, h.2⟩
theorem rd_changed_or_wrong : Rd r_changed_or_wrong 9 sp_changed_or_wrong := by
  rintro ds S Q X ⟨one, ch, ⟨rfl, h1, h2⟩, h⟩
  unfold r_changed_or_wrong
  have l1 := h1.1
  have l2 := h2.1
  simp only [dSeq, dAsg, dRet, dRetN, dIfS, dNext, dDrop, dRaise, dBreak, dCont, dTest, dOp, dVar, dC, dCB, dCons, dNil, dCall, dAndV, dOrV, dNotV, dAndT, dOrT, dNotT, dIf, dTup, dLst, dSl, oSome, oNone, dNeg, gN, gT, gConsD, gNilD, gSubD, dChain, dPar, dAug, dLc, dFor, dBM, isLst, iSeqD, iR1, iR2, iR3, dYes, rdAdd, rdSub, rdMul, rdDiv, rdMod, rdPow, rdIAdd, rdCmp, rdIsN, isNon, rdEqG, rdIx, rdSet, rdSl, rdLen, rdInt1, rdInt, rdInt2, rdAppend, startN, wipeD, List.map_cons, List.map_nil, List.length_cons, List.length_nil, Nat.zero_add, Nat.sub_self, Nat.reduceAdd, Nat.reduceSub, List.replicate_succ, List.replicate_zero, List.cons_append, List.nil_append, List.append_nil, List.getElem?_cons_zero, List.getElem?_cons_succ, List.set_cons_zero, List.set_cons_succ, Option.some.injEq, exists_eq_left', DEnds.xd, atI_0, atI_1, atI_2, atI_3, atI_4, atI_5, atI_6, atI_7, ixN_50, ixN_51, ixN_52, ixN_53, ixN_54, ixN_30, ixN_31, ixN_32, put_same, put_put, true_and, and_true]
  refine ⟨by rw [sizeLine_eq]; decide, fun p hp => ?_⟩
  unfold dWhile
  refine ⟨fun m ρ T => ∃ (fd : List Int) (hr i : Nat) (y5 y6 y7 y8 : Option Dv), T = put S p (.lst (List.map Dv.int fd)) ∧ hr ≤ one.length ∧ i ≤ ch.length ∧ fd.length ≤ hr + i ∧ m = ch.length - i ∧ resF (m + 1) one ch fd hr i = res one ch ∧
    ρ = [some (.tup (List.map Dv.int one)), some (.tup (List.map Dv.int ch)), some (.ref p), some (.int (hr : Int)), some (.int (i : Int)), y5, y6, y7, y8], ⟨ch.length, [], 0, 0, none, none, none, none, rfl, by omega, by omega, by simp, by omega, rfl, rfl⟩, ?_⟩
  rintro m ρ T ⟨fd, hr, i, y5, y6, y7, y8, rfl, hhr, hi, hfl, rfl, hres, rfl⟩
  simp only [dIfS, dTest, dOp, dVar, dC, dCB, dCons, dNil, dCall, dAndV, dOrV, dNotV, dAndT, dOrT, dNotT, dIf, dTup, dLst, dSl, oSome, oNone, dNeg, gN, gT, gConsD, gNilD, gSubD, dChain, dLc, dBM, isLst, iSeqD, iR1, iR2, iR3, dYes, rdAdd, rdSub, rdMul, rdDiv, rdMod, rdPow, rdIAdd, rdCmp, rdIsN, isNon, rdEqG, rdIx, rdSet, rdSl, rdLen, rdInt1, rdInt, rdInt2, rdAppend, startN, wipeD, List.map_cons, List.map_nil, List.length_cons, List.length_nil, Nat.zero_add, Nat.sub_self, Nat.reduceAdd, Nat.reduceSub, List.replicate_succ, List.replicate_zero, List.cons_append, List.nil_append, List.append_nil, List.getElem?_cons_zero, List.getElem?_cons_succ, List.set_cons_zero, List.set_cons_succ, Option.some.injEq, exists_eq_left', DEnds.xd, atI_0, atI_1, atI_2, atI_3, atI_4, atI_5, atI_6, atI_7, ixN_50, ixN_51, ixN_52, ixN_53, ixN_54, ixN_30, ixN_31, ixN_32, put_same, put_put, true_and, and_true]
  rw [List.length_map]
  by_cases hlt : i < ch.length
  · rw [if_pos (decide_eq_true (by omega))]
    rw [resF, if_neg (by omega)] at hres
    refine cut_seq (fun ρ T => T = put S p (.lst (List.map Dv.int fd)) ∧ ρ = [some (.tup (List.map Dv.int one)), some (.tup (List.map Dv.int ch)), some (.ref p), some (.int (hr : Int)), some (.int (i : Int)), some (partD (partO ch i)), y6, y7, y8]) (fun N hN => ?_) (fun ρ T hM => ?_)
    · simp only [dSeq, dAsg, dRet, dRetN, dIfS, dNext, dDrop, dRaise, dBreak, dCont, dTest, dOp, dVar, dC, dCB, dCons, dNil, dCall, dAndV, dOrV, dNotV, dAndT, dOrT, dNotT, dIf, dTup, dLst, dSl, oSome, oNone, dNeg, gN, gT, gConsD, gNilD, gSubD, dChain, dPar, dAug, dLc, dFor, dBM, isLst, iSeqD, iR1, iR2, iR3, dYes, rdAdd, rdSub, rdMul, rdDiv, rdMod, rdPow, rdIAdd, rdCmp, rdIsN, isNon, rdEqG, rdIx, rdSet, rdSl, rdLen, rdInt1, rdInt, rdInt2, rdAppend, startN, wipeD, List.map_cons, List.map_nil, List.length_cons, List.length_nil, Nat.zero_add, Nat.sub_self, Nat.reduceAdd, Nat.reduceSub, List.replicate_succ, List.replicate_zero, List.cons_append, List.nil_append, List.append_nil, List.getElem?_cons_zero, List.getElem?_cons_succ, List.set_cons_zero, List.set_cons_succ, Option.some.injEq, exists_eq_left', DEnds.xd, atI_0, atI_1, atI_2, atI_3, atI_4, atI_5, atI_6, atI_7, ixN_50, ixN_51, ixN_52, ixN_53, ixN_54, ixN_30, ixN_31, ixN_32, put_same, put_put, true_and, and_true]
      exact ⟨ch, i, ⟨rfl, h2.ok, by omega⟩, hN _ _ ⟨rfl, rfl⟩⟩
    obtain ⟨rfl, rfl⟩ := hM
    cases hpt : partO ch i with
    | none =>
      rw [hpt] at hres
      dsimp only at hres
      rw [← hres] at h
      unfold partD
      simp only [dSeq, dAsg, dRet, dRetN, dIfS, dNext, dDrop, dRaise, dBreak, dCont, dTest, dOp, dVar, dC, dCB, dCons, dNil, dCall, dAndV, dOrV, dNotV, dAndT, dOrT, dNotT, dIf, dTup, dLst, dSl, oSome, oNone, dNeg, gN, gT, gConsD, gNilD, gSubD, dChain, dPar, dAug, dLc, dFor, dBM, isLst, iSeqD, iR1, iR2, iR3, dYes, rdAdd, rdSub, rdMul, rdDiv, rdMod, rdPow, rdIAdd, rdCmp, rdIsN, isNon, rdEqG, rdIx, rdSet, rdSl, rdLen, rdInt1, rdInt, rdInt2, rdAppend, startN, wipeD, List.map_cons, List.map_nil, List.length_cons, List.length_nil, Nat.zero_add, Nat.sub_self, Nat.reduceAdd, Nat.reduceSub, List.replicate_succ, List.replicate_zero, List.cons_append, List.nil_append, List.append_nil, List.getElem?_cons_zero, List.getElem?_cons_succ, List.set_cons_zero, List.set_cons_succ, Option.some.injEq, exists_eq_left', DEnds.xd, atI_0, atI_1, atI_2, atI_3, atI_4, atI_5, atI_6, atI_7, ixN_50, ixN_51, ixN_52, ixN_53, ixN_54, ixN_30, ixN_31, ixN_32, put_same, put_put, true_and, and_true]
      exact ⟨by rw [sizeLine_eq]; decide, h _ (Sub.new hp)⟩
    | some pt =>
      obtain ⟨kind, many, b⟩ := pt
      have hb := partO_ok hpt
      rw [hpt] at hres
      dsimp only at hres
      unfold partD
      have bk : ((kind : Int) = 2) ↔ kind = 2 := by omega
      have tail : ∀ (fd2 : List Int) (hr2 i2 : Nat) (U : Sto) (z5 z6 z7 z8 : Option Dv), U = put S p (.lst (List.map Dv.int fd2)) → hr2 ≤ one.length → i < i2 → i2 ≤ ch.length → fd2.length ≤ hr2 + i2 → resF (ch.length - i) one ch fd2 hr2 i2 = res one ch →
          ∃ m', m' < ch.length - i ∧ ∃ (fd : List Int) (hr i : Nat) (y5 y6 y7 y8 : Option Dv), U = put S p (.lst (List.map Dv.int fd)) ∧ hr ≤ one.length ∧ i ≤ ch.length ∧ fd.length ≤ hr + i ∧ m' = ch.length - i ∧ resF (m' + 1) one ch fd hr i = res one ch ∧
            [some (.tup (List.map Dv.int one)), some (.tup (List.map Dv.int ch)), some (.ref p), some (.int (hr2 : Int)), some (.int (i2 : Int)), z5, z6, z7, z8] = [some (.tup (List.map Dv.int one)), some (.tup (List.map Dv.int ch)), some (.ref p), some (.int (hr : Int)), some (.int (i : Int)), y5, y6, y7, y8] :=
        fun fd2 hr2 i2 U z5 z6 z7 z8 e1 e2 e3 e4 e5 e6 => ⟨ch.length - i2, by omega, fd2, hr2, i2, z5, z6, z7, z8, e1, e2, e4, e5, rfl, by rw [← e6]; exact resF_any e4 (by omega) (by omega), rfl⟩
      refine cut_seq (fun ρ T => T = put S p (.lst (List.map Dv.int fd)) ∧ ¬ (kind ≠ 2 ∧ one.length < hr + many) ∧ ρ = [some (.tup (List.map Dv.int one)), some (.tup (List.map Dv.int ch)), some (.ref p), some (.int (hr : Int)), some (.int (i : Int)), some (.tup [.int (kind : Int), .int (many : Int), .int (b : Int)]), y6, y7, y8]) (fun N hN => ?_) (fun ρ T hM => ?_)
      · simp only [dSeq, dAsg, dRet, dRetN, dIfS, dNext, dDrop, dRaise, dBreak, dCont, dTest, dOp, dVar, dC, dCB, dCons, dNil, dCall, dAndV, dOrV, dNotV, dAndT, dOrT, dNotT, dIf, dTup, dLst, dSl, oSome, oNone, dNeg, gN, gT, gConsD, gNilD, gSubD, dChain, dPar, dAug, dLc, dFor, dBM, isLst, iSeqD, iR1, iR2, iR3, dYes, rdAdd, rdSub, rdMul, rdDiv, rdMod, rdPow, rdIAdd, rdCmp, rdIsN, isNon, rdEqG, rdIx, rdSet, rdSl, rdLen, rdInt1, rdInt, rdInt2, rdAppend, startN, wipeD, List.map_cons, List.map_nil, List.length_cons, List.length_nil, Nat.zero_add, Nat.sub_self, Nat.reduceAdd, Nat.reduceSub, List.replicate_succ, List.replicate_zero, List.cons_append, List.nil_append, List.append_nil, List.getElem?_cons_zero, List.getElem?_cons_succ, List.set_cons_zero, List.set_cons_succ, Option.some.injEq, exists_eq_left', DEnds.xd, atI_0, atI_1, atI_2, atI_3, atI_4, atI_5, atI_6, atI_7, ixN_50, ixN_51, ixN_52, ixN_53, ixN_54, ixN_30, ixN_31, ixN_32, put_same, put_put, true_and, and_true]
        rw [List.length_map]
        by_cases h8 : kind = 2
        · rw [decide_eq_true (bk.mpr h8)]
          refine iteF (iteF ?_)
          exact hN _ _ ⟨rfl, fun z => z.1 h8, rfl⟩
        · rw [decide_eq_false (fun z => h8 (bk.mp z))]
          refine iteF (iteT ?_)
          by_cases h7 : one.length < hr + many
          · rw [if_pos (decide_eq_true (by omega))]
            rw [if_neg h8, if_pos h7] at hres
            rw [← hres] at h
            exact ⟨by rw [sizeLine_eq]; decide, h _ (Sub.new hp)⟩
          · rw [if_neg (by rw [decide_eq_false (by omega)]; decide)]
            exact hN _ _ ⟨rfl, fun z => h7 z.2, rfl⟩
      obtain ⟨rfl, hok, rfl⟩ := hM
      refine cut_seq (fun ρ T => T = put S p (.lst (List.map Dv.int fd)) ∧ ρ = [some (.tup (List.map Dv.int one)), some (.tup (List.map Dv.int ch)), some (.ref p), some (.int (hr : Int)), some (.int (i : Int)), some (.tup [.int (kind : Int), .int (many : Int), .int (b : Int)]), some (.int (kind : Int)), some (.int (many : Int)), some (.int (b : Int))]) (fun N hN => ?_) (fun ρ T hM => ?_)
      · simp only [dSeq, dAsg, dRet, dRetN, dIfS, dNext, dDrop, dRaise, dBreak, dCont, dTest, dOp, dVar, dC, dCB, dCons, dNil, dCall, dAndV, dOrV, dNotV, dAndT, dOrT, dNotT, dIf, dTup, dLst, dSl, oSome, oNone, dNeg, gN, gT, gConsD, gNilD, gSubD, dChain, dPar, dAug, dLc, dFor, dBM, isLst, iSeqD, iR1, iR2, iR3, dYes, rdAdd, rdSub, rdMul, rdDiv, rdMod, rdPow, rdIAdd, rdCmp, rdIsN, isNon, rdEqG, rdIx, rdSet, rdSl, rdLen, rdInt1, rdInt, rdInt2, rdAppend, startN, wipeD, List.map_cons, List.map_nil, List.length_cons, List.length_nil, Nat.zero_add, Nat.sub_self, Nat.reduceAdd, Nat.reduceSub, List.replicate_succ, List.replicate_zero, List.cons_append, List.nil_append, List.append_nil, List.getElem?_cons_zero, List.getElem?_cons_succ, List.set_cons_zero, List.set_cons_succ, Option.some.injEq, exists_eq_left', DEnds.xd, atI_0, atI_1, atI_2, atI_3, atI_4, atI_5, atI_6, atI_7, ixN_50, ixN_51, ixN_52, ixN_53, ixN_54, ixN_30, ixN_31, ixN_32, put_same, put_put, true_and, and_true]
        exact hN _ _ ⟨rfl, rfl⟩
      obtain ⟨rfl, rfl⟩ := hM
      have b0 : ((kind : Int) = 0) ↔ kind = 0 := by omega
      refine cut_seq (fun ρ T => T = put S p (.lst (List.map Dv.int (if kind = 0 then fd ++ (one.drop hr).take many else fd))) ∧ ρ = [some (.tup (List.map Dv.int one)), some (.tup (List.map Dv.int ch)), some (.ref p), some (.int (hr : Int)), some (.int (i : Int)), some (.tup [.int (kind : Int), .int (many : Int), .int (b : Int)]), some (.int (kind : Int)), some (.int (many : Int)), some (.int (b : Int))]) (fun N hN => ?_) (fun ρ T hM => ?_)
      · simp only [dSeq, dAsg, dRet, dRetN, dIfS, dNext, dDrop, dRaise, dBreak, dCont, dTest, dOp, dVar, dC, dCB, dCons, dNil, dCall, dAndV, dOrV, dNotV, dAndT, dOrT, dNotT, dIf, dTup, dLst, dSl, oSome, oNone, dNeg, gN, gT, gConsD, gNilD, gSubD, dChain, dPar, dAug, dLc, dFor, dBM, isLst, iSeqD, iR1, iR2, iR3, dYes, rdAdd, rdSub, rdMul, rdDiv, rdMod, rdPow, rdIAdd, rdCmp, rdIsN, isNon, rdEqG, rdIx, rdSet, rdSl, rdLen, rdInt1, rdInt, rdInt2, rdAppend, startN, wipeD, List.map_cons, List.map_nil, List.length_cons, List.length_nil, Nat.zero_add, Nat.sub_self, Nat.reduceAdd, Nat.reduceSub, List.replicate_succ, List.replicate_zero, List.cons_append, List.nil_append, List.append_nil, List.getElem?_cons_zero, List.getElem?_cons_succ, List.set_cons_zero, List.set_cons_succ, Option.some.injEq, exists_eq_left', DEnds.xd, atI_0, atI_1, atI_2, atI_3, atI_4, atI_5, atI_6, atI_7, ixN_50, ixN_51, ixN_52, ixN_53, ixN_54, ixN_30, ixN_31, ixN_32, put_same, put_put, true_and, and_true]
        by_cases h8 : kind = 0
        · rw [if_pos (decide_eq_true (b0.mpr h8))]
          rw [if_pos h8] at hN
          have hm : hr + many ≤ one.length := by
            have := fun z => hok ⟨by omega, z⟩
            omega
          rw [cut_mid (by omega) (by omega) (by rw [List.length_map]; omega), ← List.map_drop, ← List.map_take]
          unfold rdExtend
          dsimp only
          rw [put_same]
          dsimp only
          refine ⟨by rw [sizeLine_eq, List.length_map, List.length_map, List.length_take]; omega, ?_⟩
          rw [put_put, ← List.map_append]
          refine hN _ _ ⟨?_, rfl⟩
          rw [show ((hr : Int) + (many : Int)).toNat - (hr : Int).toNat = many by omega, Int.toNat_natCast]
        · rw [if_neg (by rw [decide_eq_false (fun z => h8 (b0.mp z))]; decide)]
          rw [if_neg h8] at hN
          exact hN _ _ ⟨rfl, rfl⟩
      obtain ⟨rfl, rfl⟩ := hM
      by_cases h8 : kind = 2
      · rw [if_pos h8] at hres
        rw [if_neg (by omega)]
        have hbm := hb.2.2.2.2 h8
        simp only [dSeq, dAsg, dRet, dRetN, dIfS, dNext, dDrop, dRaise, dBreak, dCont, dTest, dOp, dVar, dC, dCB, dCons, dNil, dCall, dAndV, dOrV, dNotV, dAndT, dOrT, dNotT, dIf, dTup, dLst, dSl, oSome, oNone, dNeg, gN, gT, gConsD, gNilD, gSubD, dChain, dPar, dAug, dLc, dFor, dBM, isLst, iSeqD, iR1, iR2, iR3, dYes, rdAdd, rdSub, rdMul, rdDiv, rdMod, rdPow, rdIAdd, rdCmp, rdIsN, isNon, rdEqG, rdIx, rdSet, rdSl, rdLen, rdInt1, rdInt, rdInt2, rdAppend, startN, wipeD, List.map_cons, List.map_nil, List.length_cons, List.length_nil, Nat.zero_add, Nat.sub_self, Nat.reduceAdd, Nat.reduceSub, List.replicate_succ, List.replicate_zero, List.cons_append, List.nil_append, List.append_nil, List.getElem?_cons_zero, List.getElem?_cons_succ, List.set_cons_zero, List.set_cons_succ, Option.some.injEq, exists_eq_left', DEnds.xd, atI_0, atI_1, atI_2, atI_3, atI_4, atI_5, atI_6, atI_7, ixN_50, ixN_51, ixN_52, ixN_53, ixN_54, ixN_30, ixN_31, ixN_32, put_same, put_put, true_and, and_true]
        rw [if_pos (decide_eq_true (bk.mpr h8))]
        rw [cut_mid (by omega) (by omega) (by rw [List.length_map]; omega), ← List.map_drop, ← List.map_take]
        unfold rdExtend
        dsimp only
        rw [put_same]
        dsimp only
        refine ⟨by rw [sizeLine_eq, List.length_map, List.length_map, List.length_take]; omega, ?_⟩
        rw [put_put, ← List.map_append, show ((b : Int) + (many : Int)).toNat - (b : Int).toNat = many by omega, Int.toNat_natCast]
        exact tail (fd ++ (ch.drop b).take many) hr (b + many) _ _ _ _ _ rfl hhr (by omega) hbm (by rw [List.length_append, List.length_take]; omega) hres
      · rw [if_neg h8] at hres
        have hm : hr + many ≤ one.length := by
          have := fun z => hok ⟨h8, z⟩
          omega
        rw [if_neg (by omega)] at hres
        simp only [dSeq, dAsg, dRet, dRetN, dIfS, dNext, dDrop, dRaise, dBreak, dCont, dTest, dOp, dVar, dC, dCB, dCons, dNil, dCall, dAndV, dOrV, dNotV, dAndT, dOrT, dNotT, dIf, dTup, dLst, dSl, oSome, oNone, dNeg, gN, gT, gConsD, gNilD, gSubD, dChain, dPar, dAug, dLc, dFor, dBM, isLst, iSeqD, iR1, iR2, iR3, dYes, rdAdd, rdSub, rdMul, rdDiv, rdMod, rdPow, rdIAdd, rdCmp, rdIsN, isNon, rdEqG, rdIx, rdSet, rdSl, rdLen, rdInt1, rdInt, rdInt2, rdAppend, startN, wipeD, List.map_cons, List.map_nil, List.length_cons, List.length_nil, Nat.zero_add, Nat.sub_self, Nat.reduceAdd, Nat.reduceSub, List.replicate_succ, List.replicate_zero, List.cons_append, List.nil_append, List.append_nil, List.getElem?_cons_zero, List.getElem?_cons_succ, List.set_cons_zero, List.set_cons_succ, Option.some.injEq, exists_eq_left', DEnds.xd, atI_0, atI_1, atI_2, atI_3, atI_4, atI_5, atI_6, atI_7, ixN_50, ixN_51, ixN_52, ixN_53, ixN_54, ixN_30, ixN_31, ixN_32, put_same, put_put, true_and, and_true]
        rw [if_neg (by rw [decide_eq_false (fun z => h8 (bk.mp z))]; decide)]
        refine tail (if kind = 0 then fd ++ (one.drop hr).take many else fd) (hr + many) b _ _ _ _ _ rfl hm hb.1 hb.2.1 ?_ hres
        split
        · rw [List.length_append, List.length_take]; omega
        · omega
  · rw [if_neg (by rw [decide_eq_false (by omega)]; decide)]
    have hi2 : i = ch.length := by omega
    rw [resF, if_pos hi2] at hres
    rw [← hres] at h
    simp only [dSeq, dAsg, dRet, dRetN, dIfS, dNext, dDrop, dRaise, dBreak, dCont, dTest, dOp, dVar, dC, dCB, dCons, dNil, dCall, dAndV, dOrV, dNotV, dAndT, dOrT, dNotT, dIf, dTup, dLst, dSl, oSome, oNone, dNeg, gN, gT, gConsD, gNilD, gSubD, dChain, dPar, dAug, dLc, dFor, dBM, isLst, iSeqD, iR1, iR2, iR3, dYes, rdAdd, rdSub, rdMul, rdDiv, rdMod, rdPow, rdIAdd, rdCmp, rdIsN, isNon, rdEqG, rdIx, rdSet, rdSl, rdLen, rdInt1, rdInt, rdInt2, rdAppend, startN, wipeD, List.map_cons, List.map_nil, List.length_cons, List.length_nil, Nat.zero_add, Nat.sub_self, Nat.reduceAdd, Nat.reduceSub, List.replicate_succ, List.replicate_zero, List.cons_append, List.nil_append, List.append_nil, List.getElem?_cons_zero, List.getElem?_cons_succ, List.set_cons_zero, List.set_cons_succ, Option.some.injEq, exists_eq_left', DEnds.xd, atI_0, atI_1, atI_2, atI_3, atI_4, atI_5, atI_6, atI_7, ixN_50, ixN_51, ixN_52, ixN_53, ixN_54, ixN_30, ixN_31, ixN_32, put_same, put_put, true_and, and_true]
    unfold rdTuple seqOf
    dsimp only
    rw [put_same]
    exact ⟨S, Sub.new hp, by rw [sizeLine_eq]; decide, h _ (fun _ _ z => z)⟩
end Lw

namespace Lw
open PySem PySem.Spec PyProof.Rows L2 VD
theorem rd_changed (c d : Addr) : Rd (r_changed c d) 4 (sp_changed c d) := by
  rintro ds S Q X ⟨one, ch, ⟨rfl, h1, h2⟩, h⟩
  unfold r_changed dRaiseF
  simp only [dSeq, dAsg, dRet, dRetN, dIfS, dNext, dDrop, dRaise, dBreak, dCont, dTest, dOp, dVar, dC, dCB, dCons, dNil, dCall, dAndV, dOrV, dNotV, dAndT, dOrT, dNotT, dIf, dTup, dLst, dSl, oSome, oNone, dNeg, gN, gT, gConsD, gNilD, gSubD, dChain, dPar, dAug, dLc, dFor, dBM, isLst, iSeqD, iR1, iR2, iR3, dYes, rdAdd, rdSub, rdMul, rdDiv, rdMod, rdPow, rdIAdd, rdCmp, rdIsN, isNon, rdEqG, rdIx, rdSet, rdSl, rdLen, rdInt1, rdInt, rdInt2, rdAppend, startN, wipeD, List.map_cons, List.map_nil, List.length_cons, List.length_nil, Nat.zero_add, Nat.sub_self, Nat.reduceAdd, Nat.reduceSub, List.replicate_succ, List.replicate_zero, List.cons_append, List.nil_append, List.append_nil, List.getElem?_cons_zero, List.getElem?_cons_succ, List.set_cons_zero, List.set_cons_succ, Option.some.injEq, exists_eq_left', DEnds.xd, atI_0, atI_1, atI_2, atI_3, atI_4, atI_5, atI_6, atI_7, ixN_50, ixN_51, ixN_52, ixN_53, ixN_54, ixN_30, ixN_31, ixN_32, put_same, put_put, true_and, and_true]
  refine ⟨_, rfl, knownL_ints, ?_⟩
  rw [if_pos (isRow_ints h1.ok)]
  refine ⟨_, rfl, knownL_ints, ?_⟩
  rw [if_pos (isRow_ints h2.ok)]
  refine ⟨one, ch, ⟨rfl, h1, h2⟩, fun S' hs => ?_⟩
  cases e : res one ch with
  | mk r p =>
    rw [e] at h
    cases r with
    | none =>
      refine ⟨rfl, ?_⟩
      simp only [dSeq, dAsg, dRet, dRetN, dIfS, dNext, dDrop, dRaise, dBreak, dCont, dTest, dOp, dVar, dC, dCB, dCons, dNil, dCall, dAndV, dOrV, dNotV, dAndT, dOrT, dNotT, dIf, dTup, dLst, dSl, oSome, oNone, dNeg, gN, gT, gConsD, gNilD, gSubD, dChain, dPar, dAug, dLc, dFor, dBM, isLst, iSeqD, iR1, iR2, iR3, dYes, rdAdd, rdSub, rdMul, rdDiv, rdMod, rdPow, rdIAdd, rdCmp, rdIsN, isNon, rdEqG, rdIx, rdSet, rdSl, rdLen, rdInt1, rdInt, rdInt2, rdAppend, startN, wipeD, List.map_cons, List.map_nil, List.length_cons, List.length_nil, Nat.zero_add, Nat.sub_self, Nat.reduceAdd, Nat.reduceSub, List.replicate_succ, List.replicate_zero, List.cons_append, List.nil_append, List.append_nil, List.getElem?_cons_zero, List.getElem?_cons_succ, List.set_cons_zero, List.set_cons_succ, Option.some.injEq, exists_eq_left', DEnds.xd, atI_0, atI_1, atI_2, atI_3, atI_4, atI_5, atI_6, atI_7, ixN_50, ixN_51, ixN_52, ixN_53, ixN_54, ixN_30, ixN_31, ixN_32, put_same, put_put, true_and, and_true]
      refine iteT ?_
      exact fun dx hdx => h _ _ hs hdx
    | some l =>
      refine ⟨rfl, ?_⟩
      simp only [dSeq, dAsg, dRet, dRetN, dIfS, dNext, dDrop, dRaise, dBreak, dCont, dTest, dOp, dVar, dC, dCB, dCons, dNil, dCall, dAndV, dOrV, dNotV, dAndT, dOrT, dNotT, dIf, dTup, dLst, dSl, oSome, oNone, dNeg, gN, gT, gConsD, gNilD, gSubD, dChain, dPar, dAug, dLc, dFor, dBM, isLst, iSeqD, iR1, iR2, iR3, dYes, rdAdd, rdSub, rdMul, rdDiv, rdMod, rdPow, rdIAdd, rdCmp, rdIsN, isNon, rdEqG, rdIx, rdSet, rdSl, rdLen, rdInt1, rdInt, rdInt2, rdAppend, startN, wipeD, List.map_cons, List.map_nil, List.length_cons, List.length_nil, Nat.zero_add, Nat.sub_self, Nat.reduceAdd, Nat.reduceSub, List.replicate_succ, List.replicate_zero, List.cons_append, List.nil_append, List.append_nil, List.getElem?_cons_zero, List.getElem?_cons_succ, List.set_cons_zero, List.set_cons_succ, Option.some.injEq, exists_eq_left', DEnds.xd, atI_0, atI_1, atI_2, atI_3, atI_4, atI_5, atI_6, atI_7, ixN_50, ixN_51, ixN_52, ixN_53, ixN_54, ixN_30, ixN_31, ixN_32, put_same, put_put, true_and, and_true]
      exact iteF (h _ hs)
theorem comB_step {l1 l2 : List Int} {k : Nat} {x y : Int} (h1 : l1[k]? = some x) (h2 : l2[k]? = some y) : comB (l1.drop k) (l2.drop k) = if x = y then comB (l1.drop (k + 1)) (l2.drop (k + 1)) + 1 else 0 := by
  rw [List.drop_eq_getElem?_toList_append, h1, List.drop_eq_getElem?_toList_append (l := l2), h2]
  rfl
theorem comB_end {l1 l2 : List Int} {k : Nat} (h : l1.length ≤ k ∨ l2.length ≤ k) : comB (l1.drop k) (l2.drop k) = 0 := by
  rcases h with h | h
  · rw [List.drop_of_length_le h]
    rfl
  · rw [List.drop_of_length_le (l := l2) h]
    cases l1.drop k <;> rfl
theorem rd_common_begin : Rd r_common_begin 3 sp_common_begin := by
  rintro ds S Q X ⟨xs, ys, ⟨rfl, h1, h2⟩, h⟩
  unfold r_common_begin
  simp only [dSeq, dAsg, dRet, dRetN, dIfS, dNext, dDrop, dRaise, dBreak, dCont, dTest, dOp, dVar, dC, dCB, dCons, dNil, dCall, dAndV, dOrV, dNotV, dAndT, dOrT, dNotT, dIf, dTup, dLst, dSl, oSome, oNone, dNeg, gN, gT, gConsD, gNilD, gSubD, dChain, dPar, dAug, dLc, dFor, dBM, isLst, iSeqD, iR1, iR2, iR3, dYes, rdAdd, rdSub, rdMul, rdDiv, rdMod, rdPow, rdIAdd, rdCmp, rdIsN, isNon, rdEqG, rdIx, rdSet, rdSl, rdLen, rdInt1, rdInt, rdInt2, rdAppend, startN, wipeD, List.map_cons, List.map_nil, List.length_cons, List.length_nil, Nat.zero_add, Nat.sub_self, Nat.reduceAdd, Nat.reduceSub, List.replicate_succ, List.replicate_zero, List.cons_append, List.nil_append, List.append_nil, List.getElem?_cons_zero, List.getElem?_cons_succ, List.set_cons_zero, List.set_cons_succ, Option.some.injEq, exists_eq_left', DEnds.xd, atI_0, atI_1, atI_2, atI_3, atI_4, atI_5, atI_6, atI_7, ixN_50, ixN_51, ixN_52, ixN_53, ixN_54, ixN_30, ixN_31, ixN_32, put_same, put_put, true_and, and_true]
  unfold dWhile
  refine ⟨fun m ρ T => T = S ∧ ∃ k : Nat, k ≤ xs.length ∧ k ≤ ys.length ∧ m = xs.length - k ∧ comB xs ys = k + comB (xs.drop k) (ys.drop k) ∧ ρ = [some (.tup (List.map Dv.int xs)), some (.tup (List.map Dv.int ys)), some (.int (k : Int))], ⟨xs.length, rfl, 0, by omega, by omega, by omega, by simp, rfl⟩, ?_⟩
  rintro m ρ T ⟨rfl, k, hk1, hk2, rfl, hc, rfl⟩
  simp only [dIfS, dTest, dOp, dVar, dC, dCB, dCons, dNil, dCall, dAndV, dOrV, dNotV, dAndT, dOrT, dNotT, dIf, dTup, dLst, dSl, oSome, oNone, dNeg, gN, gT, gConsD, gNilD, gSubD, dChain, dLc, dBM, isLst, iSeqD, iR1, iR2, iR3, dYes, rdAdd, rdSub, rdMul, rdDiv, rdMod, rdPow, rdIAdd, rdCmp, rdIsN, isNon, rdEqG, rdIx, rdSet, rdSl, rdLen, rdInt1, rdInt, rdInt2, rdAppend, startN, wipeD, List.map_cons, List.map_nil, List.length_cons, List.length_nil, Nat.zero_add, Nat.sub_self, Nat.reduceAdd, Nat.reduceSub, List.replicate_succ, List.replicate_zero, List.cons_append, List.nil_append, List.append_nil, List.getElem?_cons_zero, List.getElem?_cons_succ, List.set_cons_zero, List.set_cons_succ, Option.some.injEq, exists_eq_left', DEnds.xd, atI_0, atI_1, atI_2, atI_3, atI_4, atI_5, atI_6, atI_7, ixN_50, ixN_51, ixN_52, ixN_53, ixN_54, ixN_30, ixN_31, ixN_32, put_same, put_put, true_and, and_true]
  rw [List.length_map, List.length_map]
  by_cases hlt : k < xs.length ∧ k < ys.length
  · have e1 : xs[k]? = some xs[k] := List.getElem?_eq_getElem hlt.1
    have e2 : ys[k]? = some ys[k] := List.getElem?_eq_getElem hlt.2
    have a1 : atI (List.map Dv.int xs) (k : Int) = some (.int xs[k]) := by rw [atI_nn (by omega), Int.toNat_natCast, List.getElem?_map, e1]; rfl
    have a2 : atI (List.map Dv.int ys) (k : Int) = some (.int ys[k]) := by rw [atI_nn (by omega), Int.toNat_natCast, List.getElem?_map, e2]; rfl
    rw [if_pos (decide_eq_true (by split <;> omega))]
    refine ⟨_, a1, _, a2, ?_⟩
    simp only [dSeq, dAsg, dRet, dRetN, dIfS, dNext, dDrop, dRaise, dBreak, dCont, dTest, dOp, dVar, dC, dCB, dCons, dNil, dCall, dAndV, dOrV, dNotV, dAndT, dOrT, dNotT, dIf, dTup, dLst, dSl, oSome, oNone, dNeg, gN, gT, gConsD, gNilD, gSubD, dChain, dPar, dAug, dLc, dFor, dBM, isLst, iSeqD, iR1, iR2, iR3, dYes, rdAdd, rdSub, rdMul, rdDiv, rdMod, rdPow, rdIAdd, rdCmp, rdIsN, isNon, rdEqG, rdIx, rdSet, rdSl, rdLen, rdInt1, rdInt, rdInt2, rdAppend, startN, wipeD, List.map_cons, List.map_nil, List.length_cons, List.length_nil, Nat.zero_add, Nat.sub_self, Nat.reduceAdd, Nat.reduceSub, List.replicate_succ, List.replicate_zero, List.cons_append, List.nil_append, List.append_nil, List.getElem?_cons_zero, List.getElem?_cons_succ, List.set_cons_zero, List.set_cons_succ, Option.some.injEq, exists_eq_left', DEnds.xd, atI_0, atI_1, atI_2, atI_3, atI_4, atI_5, atI_6, atI_7, ixN_50, ixN_51, ixN_52, ixN_53, ixN_54, ixN_30, ixN_31, ixN_32, put_same, put_put, true_and, and_true]
    rw [comB_step e1 e2] at hc
    by_cases he : xs[k] = ys[k]
    · rw [if_pos (decide_eq_true he)]
      rw [if_pos he] at hc
      exact ⟨xs.length - (k + 1), by omega, k + 1, by omega, by omega, rfl, by omega, rfl⟩
    · rw [if_neg (by rw [decide_eq_false he]; decide)]
      rw [if_neg he] at hc
      rw [hc] at h
      exact h
  · rw [if_neg (by rw [decide_eq_false (by split <;> omega)]; decide)]
    rw [comB_end (by omega)] at hc
    rw [hc] at h
    simp only [dSeq, dAsg, dRet, dRetN, dIfS, dNext, dDrop, dRaise, dBreak, dCont, dTest, dOp, dVar, dC, dCB, dCons, dNil, dCall, dAndV, dOrV, dNotV, dAndT, dOrT, dNotT, dIf, dTup, dLst, dSl, oSome, oNone, dNeg, gN, gT, gConsD, gNilD, gSubD, dChain, dPar, dAug, dLc, dFor, dBM, isLst, iSeqD, iR1, iR2, iR3, dYes, rdAdd, rdSub, rdMul, rdDiv, rdMod, rdPow, rdIAdd, rdCmp, rdIsN, isNon, rdEqG, rdIx, rdSet, rdSl, rdLen, rdInt1, rdInt, rdInt2, rdAppend, startN, wipeD, List.map_cons, List.map_nil, List.length_cons, List.length_nil, Nat.zero_add, Nat.sub_self, Nat.reduceAdd, Nat.reduceSub, List.replicate_succ, List.replicate_zero, List.cons_append, List.nil_append, List.append_nil, List.getElem?_cons_zero, List.getElem?_cons_succ, List.set_cons_zero, List.set_cons_succ, Option.some.injEq, exists_eq_left', DEnds.xd, atI_0, atI_1, atI_2, atI_3, atI_4, atI_5, atI_6, atI_7, ixN_50, ixN_51, ixN_52, ixN_53, ixN_54, ixN_30, ixN_31, ixN_32, put_same, put_put, true_and, and_true]
    exact h
theorem rev_get {xs : List Int} {m k : Nat} (hm : m ≤ xs.length) (hk : k < m) : (xs.reverse.take m)[k]? = xs[xs.length - 1 - k]? := by
  rw [List.getElem?_take_of_lt hk, List.getElem?_reverse (by omega)]
theorem rd_common_end : Rd r_common_end 4 sp_common_end := by
  rintro ds S Q X ⟨xs, ys, most, rfl, h1, h2, hm1, hm2, h⟩
  unfold r_common_end
  simp only [dSeq, dAsg, dRet, dRetN, dIfS, dNext, dDrop, dRaise, dBreak, dCont, dTest, dOp, dVar, dC, dCB, dCons, dNil, dCall, dAndV, dOrV, dNotV, dAndT, dOrT, dNotT, dIf, dTup, dLst, dSl, oSome, oNone, dNeg, gN, gT, gConsD, gNilD, gSubD, dChain, dPar, dAug, dLc, dFor, dBM, isLst, iSeqD, iR1, iR2, iR3, dYes, rdAdd, rdSub, rdMul, rdDiv, rdMod, rdPow, rdIAdd, rdCmp, rdIsN, isNon, rdEqG, rdIx, rdSet, rdSl, rdLen, rdInt1, rdInt, rdInt2, rdAppend, startN, wipeD, List.map_cons, List.map_nil, List.length_cons, List.length_nil, Nat.zero_add, Nat.sub_self, Nat.reduceAdd, Nat.reduceSub, List.replicate_succ, List.replicate_zero, List.cons_append, List.nil_append, List.append_nil, List.getElem?_cons_zero, List.getElem?_cons_succ, List.set_cons_zero, List.set_cons_succ, Option.some.injEq, exists_eq_left', DEnds.xd, atI_0, atI_1, atI_2, atI_3, atI_4, atI_5, atI_6, atI_7, ixN_50, ixN_51, ixN_52, ixN_53, ixN_54, ixN_30, ixN_31, ixN_32, put_same, put_put, true_and, and_true]
  unfold dWhile
  have lx : (xs.reverse.take most).length = most := by rw [List.length_take, List.length_reverse]; omega
  have ly : (ys.reverse.take most).length = most := by rw [List.length_take, List.length_reverse]; omega
  unfold comE at h
  refine ⟨fun m ρ T => T = S ∧ ∃ k : Nat, k ≤ most ∧ m = most - k ∧ comB (xs.reverse.take most) (ys.reverse.take most) = k + comB ((xs.reverse.take most).drop k) ((ys.reverse.take most).drop k) ∧ ρ = [some (.tup (List.map Dv.int xs)), some (.tup (List.map Dv.int ys)), some (.int (most : Int)), some (.int (k : Int))], ⟨most, rfl, 0, by omega, by omega, by simp, rfl⟩, ?_⟩
  rintro m ρ T ⟨rfl, k, hk, rfl, hc, rfl⟩
  simp only [dIfS, dTest, dOp, dVar, dC, dCB, dCons, dNil, dCall, dAndV, dOrV, dNotV, dAndT, dOrT, dNotT, dIf, dTup, dLst, dSl, oSome, oNone, dNeg, gN, gT, gConsD, gNilD, gSubD, dChain, dLc, dBM, isLst, iSeqD, iR1, iR2, iR3, dYes, rdAdd, rdSub, rdMul, rdDiv, rdMod, rdPow, rdIAdd, rdCmp, rdIsN, isNon, rdEqG, rdIx, rdSet, rdSl, rdLen, rdInt1, rdInt, rdInt2, rdAppend, startN, wipeD, List.map_cons, List.map_nil, List.length_cons, List.length_nil, Nat.zero_add, Nat.sub_self, Nat.reduceAdd, Nat.reduceSub, List.replicate_succ, List.replicate_zero, List.cons_append, List.nil_append, List.append_nil, List.getElem?_cons_zero, List.getElem?_cons_succ, List.set_cons_zero, List.set_cons_succ, Option.some.injEq, exists_eq_left', DEnds.xd, atI_0, atI_1, atI_2, atI_3, atI_4, atI_5, atI_6, atI_7, ixN_50, ixN_51, ixN_52, ixN_53, ixN_54, ixN_30, ixN_31, ixN_32, put_same, put_put, true_and, and_true]
  rw [List.length_map, List.length_map]
  by_cases hlt : k < most
  · have b1 : xs.length - 1 - k < xs.length := by omega
    have b2 : ys.length - 1 - k < ys.length := by omega
    have e1 : (xs.reverse.take most)[k]? = some xs[xs.length - 1 - k] := by rw [rev_get hm1 hlt, List.getElem?_eq_getElem b1]
    have e2 : (ys.reverse.take most)[k]? = some ys[ys.length - 1 - k] := by rw [rev_get hm2 hlt, List.getElem?_eq_getElem b2]
    have a1 : atI (List.map Dv.int xs) ((xs.length : Int) - 1 - (k : Int)) = some (.int xs[xs.length - 1 - k]) := by
      rw [atI_nn (by omega), show ((xs.length : Int) - 1 - (k : Int)).toNat = xs.length - 1 - k by omega, List.getElem?_map, List.getElem?_eq_getElem b1]; rfl
    have a2 : atI (List.map Dv.int ys) ((ys.length : Int) - 1 - (k : Int)) = some (.int ys[ys.length - 1 - k]) := by
      rw [atI_nn (by omega), show ((ys.length : Int) - 1 - (k : Int)).toNat = ys.length - 1 - k by omega, List.getElem?_map, List.getElem?_eq_getElem b2]; rfl
    rw [if_pos (decide_eq_true (by omega))]
    refine ⟨_, a1, _, a2, ?_⟩
    simp only [dSeq, dAsg, dRet, dRetN, dIfS, dNext, dDrop, dRaise, dBreak, dCont, dTest, dOp, dVar, dC, dCB, dCons, dNil, dCall, dAndV, dOrV, dNotV, dAndT, dOrT, dNotT, dIf, dTup, dLst, dSl, oSome, oNone, dNeg, gN, gT, gConsD, gNilD, gSubD, dChain, dPar, dAug, dLc, dFor, dBM, isLst, iSeqD, iR1, iR2, iR3, dYes, rdAdd, rdSub, rdMul, rdDiv, rdMod, rdPow, rdIAdd, rdCmp, rdIsN, isNon, rdEqG, rdIx, rdSet, rdSl, rdLen, rdInt1, rdInt, rdInt2, rdAppend, startN, wipeD, List.map_cons, List.map_nil, List.length_cons, List.length_nil, Nat.zero_add, Nat.sub_self, Nat.reduceAdd, Nat.reduceSub, List.replicate_succ, List.replicate_zero, List.cons_append, List.nil_append, List.append_nil, List.getElem?_cons_zero, List.getElem?_cons_succ, List.set_cons_zero, List.set_cons_succ, Option.some.injEq, exists_eq_left', DEnds.xd, atI_0, atI_1, atI_2, atI_3, atI_4, atI_5, atI_6, atI_7, ixN_50, ixN_51, ixN_52, ixN_53, ixN_54, ixN_30, ixN_31, ixN_32, put_same, put_put, true_and, and_true]
    rw [comB_step e1 e2] at hc
    by_cases he : xs[xs.length - 1 - k] = ys[ys.length - 1 - k]
    · rw [if_pos (decide_eq_true he)]
      rw [if_pos he] at hc
      exact ⟨most - (k + 1), by omega, k + 1, by omega, rfl, by omega, rfl⟩
    · rw [if_neg (by rw [decide_eq_false he]; decide)]
      rw [if_neg he] at hc
      rw [hc] at h
      exact h
  · rw [if_neg (by rw [decide_eq_false (by omega)]; decide)]
    rw [comB_end (by omega)] at hc
    rw [hc] at h
    simp only [dSeq, dAsg, dRet, dRetN, dIfS, dNext, dDrop, dRaise, dBreak, dCont, dTest, dOp, dVar, dC, dCB, dCons, dNil, dCall, dAndV, dOrV, dNotV, dAndT, dOrT, dNotT, dIf, dTup, dLst, dSl, oSome, oNone, dNeg, gN, gT, gConsD, gNilD, gSubD, dChain, dPar, dAug, dLc, dFor, dBM, isLst, iSeqD, iR1, iR2, iR3, dYes, rdAdd, rdSub, rdMul, rdDiv, rdMod, rdPow, rdIAdd, rdCmp, rdIsN, isNon, rdEqG, rdIx, rdSet, rdSl, rdLen, rdInt1, rdInt, rdInt2, rdAppend, startN, wipeD, List.map_cons, List.map_nil, List.length_cons, List.length_nil, Nat.zero_add, Nat.sub_self, Nat.reduceAdd, Nat.reduceSub, List.replicate_succ, List.replicate_zero, List.cons_append, List.nil_append, List.append_nil, List.getElem?_cons_zero, List.getElem?_cons_succ, List.set_cons_zero, List.set_cons_succ, Option.some.injEq, exists_eq_left', DEnds.xd, atI_0, atI_1, atI_2, atI_3, atI_4, atI_5, atI_6, atI_7, ixN_50, ixN_51, ixN_52, ixN_53, ixN_54, ixN_30, ixN_31, ixN_32, put_same, put_put, true_and, and_true]
    exact h
theorem rd_part_row : Rd r_part_row 2 sp_part_row := by
  rintro ds S Q X ⟨k, m, rfl, hk, hm, h⟩
  unfold r_part_row
  simp only [dSeq, dAsg, dRet, dRetN, dIfS, dNext, dDrop, dRaise, dBreak, dCont, dTest, dOp, dVar, dC, dCB, dCons, dNil, dCall, dAndV, dOrV, dNotV, dAndT, dOrT, dNotT, dIf, dTup, dLst, dSl, oSome, oNone, dNeg, gN, gT, gConsD, gNilD, gSubD, dChain, dPar, dAug, dLc, dFor, dBM, isLst, iSeqD, iR1, iR2, iR3, dYes, rdAdd, rdSub, rdMul, rdDiv, rdMod, rdPow, rdIAdd, rdCmp, rdIsN, isNon, rdEqG, rdIx, rdSet, rdSl, rdLen, rdInt1, rdInt, rdInt2, rdAppend, startN, wipeD, List.map_cons, List.map_nil, List.length_cons, List.length_nil, Nat.zero_add, Nat.sub_self, Nat.reduceAdd, Nat.reduceSub, List.replicate_succ, List.replicate_zero, List.cons_append, List.nil_append, List.append_nil, List.getElem?_cons_zero, List.getElem?_cons_succ, List.set_cons_zero, List.set_cons_succ, Option.some.injEq, exists_eq_left', DEnds.xd, atI_0, atI_1, atI_2, atI_3, atI_4, atI_5, atI_6, atI_7, ixN_50, ixN_51, ixN_52, ixN_53, ixN_54, ixN_30, ixN_31, ixN_32, put_same, put_put, true_and, and_true]
  unfold partR at h
  by_cases h0 : 0 < m
  · rw [if_pos (decide_eq_true (by omega))]
    rw [if_pos h0] at h
    refine ⟨mulok_l (by decide) (by decide), _, rfl, by omega, by omega, ?_⟩
    rw [show (3 * (m : Int) + (k : Int)) = ((3 * m + k : Nat) : Int) by omega]
    exact h
  · rw [if_neg (by rw [decide_eq_false (by omega)]; decide)]
    rw [if_neg h0] at h
    exact ⟨Nat.zero_le _, h⟩
end Lw

namespace Lw
open PySem PySem.Spec PyProof.Rows L2 VD
theorem comB_le : ∀ (xs ys : List Int), comB xs ys ≤ xs.length ∧ comB xs ys ≤ ys.length
  | [], _ => by simp [comB]
  | _ :: _, [] => by simp [comB]
  | x :: xs, y :: ys => by
    have := comB_le xs ys
    unfold comB
    split <;> simp <;> omega
theorem comE_le (xs ys : List Int) (m : Nat) : comE xs ys m ≤ m := by
  have := (comB_le (xs.reverse.take m) (ys.reverse.take m)).1
  rw [List.length_take] at this
  unfold comE
  omega
theorem partR_len (k m : Nat) : (partR k m).length ≤ 10 := by
  unfold partR
  split
  · exact (figF_len 9 _).2
  · simp
theorem rd_change_of : Rd r_change_of 7 sp_change_of := by
  rintro ds S Q X ⟨xs, ys, ⟨rfl, h1, h2⟩, h⟩
  unfold r_change_of
  have l1 := h1.1
  have l2 := h2.1
  have hb := comB_le xs ys
  have he := comE_le xs ys (min xs.length ys.length - comB xs ys)
  refine cut_seq (fun ρ T => T = S ∧ ρ = [some (.tup (List.map Dv.int xs)), some (.tup (List.map Dv.int ys)), some (.int (comB xs ys : Int)), none, none, none, none]) (fun N hN => ?_) (fun ρ T hM => ?_)
  · simp only [dSeq, dAsg, dRet, dRetN, dIfS, dNext, dDrop, dRaise, dBreak, dCont, dTest, dOp, dVar, dC, dCB, dCons, dNil, dCall, dAndV, dOrV, dNotV, dAndT, dOrT, dNotT, dIf, dTup, dLst, dSl, oSome, oNone, dNeg, gN, gT, gConsD, gNilD, gSubD, dChain, dPar, dAug, dLc, dFor, dBM, isLst, iSeqD, iR1, iR2, iR3, dYes, rdAdd, rdSub, rdMul, rdDiv, rdMod, rdPow, rdIAdd, rdCmp, rdIsN, isNon, rdEqG, rdIx, rdSet, rdSl, rdLen, rdInt1, rdInt, rdInt2, rdAppend, startN, wipeD, List.map_cons, List.map_nil, List.length_cons, List.length_nil, Nat.zero_add, Nat.sub_self, Nat.reduceAdd, Nat.reduceSub, List.replicate_succ, List.replicate_zero, List.cons_append, List.nil_append, List.append_nil, List.getElem?_cons_zero, List.getElem?_cons_succ, List.set_cons_zero, List.set_cons_succ, Option.some.injEq, exists_eq_left', DEnds.xd, atI_0, atI_1, atI_2, atI_3, atI_4, atI_5, atI_6, atI_7, ixN_50, ixN_51, ixN_52, ixN_53, ixN_54, ixN_30, ixN_31, ixN_32, put_same, put_put, true_and, and_true]
    exact ⟨xs, ys, ⟨rfl, h1, h2⟩, hN _ _ ⟨rfl, rfl⟩⟩
  obtain ⟨rfl, rfl⟩ := hM
  refine cut_seq (fun ρ U => U = T ∧ ρ = [some (.tup (List.map Dv.int xs)), some (.tup (List.map Dv.int ys)), some (.int (comB xs ys : Int)), some (.int (comE xs ys (min xs.length ys.length - comB xs ys) : Int)), none, none, none]) (fun N hN => ?_) (fun ρ U hM => ?_)
  · simp only [dSeq, dAsg, dRet, dRetN, dIfS, dNext, dDrop, dRaise, dBreak, dCont, dTest, dOp, dVar, dC, dCB, dCons, dNil, dCall, dAndV, dOrV, dNotV, dAndT, dOrT, dNotT, dIf, dTup, dLst, dSl, oSome, oNone, dNeg, gN, gT, gConsD, gNilD, gSubD, dChain, dPar, dAug, dLc, dFor, dBM, isLst, iSeqD, iR1, iR2, iR3, dYes, rdAdd, rdSub, rdMul, rdDiv, rdMod, rdPow, rdIAdd, rdCmp, rdIsN, isNon, rdEqG, rdIx, rdSet, rdSl, rdLen, rdInt1, rdInt, rdInt2, rdAppend, startN, wipeD, List.map_cons, List.map_nil, List.length_cons, List.length_nil, Nat.zero_add, Nat.sub_self, Nat.reduceAdd, Nat.reduceSub, List.replicate_succ, List.replicate_zero, List.cons_append, List.nil_append, List.append_nil, List.getElem?_cons_zero, List.getElem?_cons_succ, List.set_cons_zero, List.set_cons_succ, Option.some.injEq, exists_eq_left', DEnds.xd, atI_0, atI_1, atI_2, atI_3, atI_4, atI_5, atI_6, atI_7, ixN_50, ixN_51, ixN_52, ixN_53, ixN_54, ixN_30, ixN_31, ixN_32, put_same, put_put, true_and, and_true]
    rw [List.length_map, List.length_map]
    have e : (if (ys.length : Int) < (xs.length : Int) then (ys.length : Int) else (xs.length : Int)) - (comB xs ys : Int) = ((min xs.length ys.length - comB xs ys : Nat) : Int) := by
      split <;> omega
    rw [e]
    exact ⟨xs, ys, _, rfl, h1, h2, by omega, by omega, hN _ _ ⟨rfl, rfl⟩⟩
  obtain ⟨rfl, rfl⟩ := hM
  unfold chgF at h
  dsimp only at h
  generalize comB xs ys = b0 at h hb he
  generalize comE xs ys (min xs.length ys.length - b0) = e0 at h he
  have hbb : (if b0 < 8 then 0 else b0) ≤ b0 := by split <;> omega
  have hee : (if e0 < 8 then 0 else e0) ≤ e0 := by split <;> omega
  refine cut_seq (fun ρ T => T = U ∧ ρ = [some (.tup (List.map Dv.int xs)), some (.tup (List.map Dv.int ys)), some (.int ((if b0 < 8 then 0 else b0 : Nat) : Int)), some (.int (e0 : Int)), none, none, none]) (fun N hN => ?_) (fun ρ T hM => ?_)
  · simp only [dSeq, dAsg, dRet, dRetN, dIfS, dNext, dDrop, dRaise, dBreak, dCont, dTest, dOp, dVar, dC, dCB, dCons, dNil, dCall, dAndV, dOrV, dNotV, dAndT, dOrT, dNotT, dIf, dTup, dLst, dSl, oSome, oNone, dNeg, gN, gT, gConsD, gNilD, gSubD, dChain, dPar, dAug, dLc, dFor, dBM, isLst, iSeqD, iR1, iR2, iR3, dYes, rdAdd, rdSub, rdMul, rdDiv, rdMod, rdPow, rdIAdd, rdCmp, rdIsN, isNon, rdEqG, rdIx, rdSet, rdSl, rdLen, rdInt1, rdInt, rdInt2, rdAppend, startN, wipeD, List.map_cons, List.map_nil, List.length_cons, List.length_nil, Nat.zero_add, Nat.sub_self, Nat.reduceAdd, Nat.reduceSub, List.replicate_succ, List.replicate_zero, List.cons_append, List.nil_append, List.append_nil, List.getElem?_cons_zero, List.getElem?_cons_succ, List.set_cons_zero, List.set_cons_succ, Option.some.injEq, exists_eq_left', DEnds.xd, atI_0, atI_1, atI_2, atI_3, atI_4, atI_5, atI_6, atI_7, ixN_50, ixN_51, ixN_52, ixN_53, ixN_54, ixN_30, ixN_31, ixN_32, put_same, put_put, true_and, and_true]
    by_cases h8 : b0 < 8
    · rw [if_pos (decide_eq_true (by omega))]
      rw [if_pos h8] at hN
      exact hN _ _ ⟨rfl, rfl⟩
    · rw [if_neg (by rw [decide_eq_false (by omega)]; decide)]
      rw [if_neg h8] at hN
      exact hN _ _ ⟨rfl, rfl⟩
  obtain ⟨rfl, rfl⟩ := hM
  generalize (if b0 < 8 then 0 else b0 : Nat) = b at h hbb
  refine cut_seq (fun ρ U => U = T ∧ ρ = [some (.tup (List.map Dv.int xs)), some (.tup (List.map Dv.int ys)), some (.int (b : Int)), some (.int ((if e0 < 8 then 0 else e0 : Nat) : Int)), none, none, none]) (fun N hN => ?_) (fun ρ U hM => ?_)
  · simp only [dSeq, dAsg, dRet, dRetN, dIfS, dNext, dDrop, dRaise, dBreak, dCont, dTest, dOp, dVar, dC, dCB, dCons, dNil, dCall, dAndV, dOrV, dNotV, dAndT, dOrT, dNotT, dIf, dTup, dLst, dSl, oSome, oNone, dNeg, gN, gT, gConsD, gNilD, gSubD, dChain, dPar, dAug, dLc, dFor, dBM, isLst, iSeqD, iR1, iR2, iR3, dYes, rdAdd, rdSub, rdMul, rdDiv, rdMod, rdPow, rdIAdd, rdCmp, rdIsN, isNon, rdEqG, rdIx, rdSet, rdSl, rdLen, rdInt1, rdInt, rdInt2, rdAppend, startN, wipeD, List.map_cons, List.map_nil, List.length_cons, List.length_nil, Nat.zero_add, Nat.sub_self, Nat.reduceAdd, Nat.reduceSub, List.replicate_succ, List.replicate_zero, List.cons_append, List.nil_append, List.append_nil, List.getElem?_cons_zero, List.getElem?_cons_succ, List.set_cons_zero, List.set_cons_succ, Option.some.injEq, exists_eq_left', DEnds.xd, atI_0, atI_1, atI_2, atI_3, atI_4, atI_5, atI_6, atI_7, ixN_50, ixN_51, ixN_52, ixN_53, ixN_54, ixN_30, ixN_31, ixN_32, put_same, put_put, true_and, and_true]
    by_cases h8 : e0 < 8
    · rw [if_pos (decide_eq_true (by omega))]
      rw [if_pos h8] at hN
      exact hN _ _ ⟨rfl, rfl⟩
    · rw [if_neg (by rw [decide_eq_false (by omega)]; decide)]
      rw [if_neg h8] at hN
      exact hN _ _ ⟨rfl, rfl⟩
  obtain ⟨rfl, rfl⟩ := hM
  generalize (if e0 < 8 then 0 else e0 : Nat) = e at h hee
  have hsum : b + e ≤ xs.length ∧ b + e ≤ ys.length := by omega
  generalize hmid : (ys.drop b).take (ys.length - e - b) = mid at h
  have hml : mid.length ≤ ys.length := by rw [← hmid, List.length_take, List.length_drop]; omega
  have p0 := partR_len 0 b
  have p2 := partR_len 2 mid.length
  have p3 := partR_len 0 e
  refine cut_seq (fun ρ T => T = U ∧ ρ = [some (.tup (List.map Dv.int xs)), some (.tup (List.map Dv.int ys)), some (.int (b : Int)), some (.int (e : Int)), some (.tup (List.map Dv.int mid)), none, none]) (fun N hN => ?_) (fun ρ T hM => ?_)
  · simp only [dSeq, dAsg, dRet, dRetN, dIfS, dNext, dDrop, dRaise, dBreak, dCont, dTest, dOp, dVar, dC, dCB, dCons, dNil, dCall, dAndV, dOrV, dNotV, dAndT, dOrT, dNotT, dIf, dTup, dLst, dSl, oSome, oNone, dNeg, gN, gT, gConsD, gNilD, gSubD, dChain, dPar, dAug, dLc, dFor, dBM, isLst, iSeqD, iR1, iR2, iR3, dYes, rdAdd, rdSub, rdMul, rdDiv, rdMod, rdPow, rdIAdd, rdCmp, rdIsN, isNon, rdEqG, rdIx, rdSet, rdSl, rdLen, rdInt1, rdInt, rdInt2, rdAppend, startN, wipeD, List.map_cons, List.map_nil, List.length_cons, List.length_nil, Nat.zero_add, Nat.sub_self, Nat.reduceAdd, Nat.reduceSub, List.replicate_succ, List.replicate_zero, List.cons_append, List.nil_append, List.append_nil, List.getElem?_cons_zero, List.getElem?_cons_succ, List.set_cons_zero, List.set_cons_succ, Option.some.injEq, exists_eq_left', DEnds.xd, atI_0, atI_1, atI_2, atI_3, atI_4, atI_5, atI_6, atI_7, ixN_50, ixN_51, ixN_52, ixN_53, ixN_54, ixN_30, ixN_31, ixN_32, put_same, put_put, true_and, and_true]
    rw [List.length_map, cut_mid (by omega) (by omega) (by rw [List.length_map]; omega), ← List.map_drop, ← List.map_take]
    rw [show (b : Int).toNat = b by omega, show ((ys.length : Int) - (e : Int)).toNat = ys.length - e by omega, hmid]
    exact hN _ _ ⟨rfl, rfl⟩
  obtain ⟨rfl, rfl⟩ := hM
  generalize hout : (if 0 < e then xs.length - b - e else 0 : Nat) = out at h
  have hol : out ≤ xs.length := by rw [← hout]; split <;> omega
  have p1 := partR_len 1 out
  refine cut_seq (fun ρ U => U = T ∧ ρ = [some (.tup (List.map Dv.int xs)), some (.tup (List.map Dv.int ys)), some (.int (b : Int)), some (.int (e : Int)), some (.tup (List.map Dv.int mid)), some (.int (out : Int)), none]) (fun N hN => ?_) (fun ρ U hM => ?_)
  · simp only [dSeq, dAsg, dRet, dRetN, dIfS, dNext, dDrop, dRaise, dBreak, dCont, dTest, dOp, dVar, dC, dCB, dCons, dNil, dCall, dAndV, dOrV, dNotV, dAndT, dOrT, dNotT, dIf, dTup, dLst, dSl, oSome, oNone, dNeg, gN, gT, gConsD, gNilD, gSubD, dChain, dPar, dAug, dLc, dFor, dBM, isLst, iSeqD, iR1, iR2, iR3, dYes, rdAdd, rdSub, rdMul, rdDiv, rdMod, rdPow, rdIAdd, rdCmp, rdIsN, isNon, rdEqG, rdIx, rdSet, rdSl, rdLen, rdInt1, rdInt, rdInt2, rdAppend, startN, wipeD, List.map_cons, List.map_nil, List.length_cons, List.length_nil, Nat.zero_add, Nat.sub_self, Nat.reduceAdd, Nat.reduceSub, List.replicate_succ, List.replicate_zero, List.cons_append, List.nil_append, List.append_nil, List.getElem?_cons_zero, List.getElem?_cons_succ, List.set_cons_zero, List.set_cons_succ, Option.some.injEq, exists_eq_left', DEnds.xd, atI_0, atI_1, atI_2, atI_3, atI_4, atI_5, atI_6, atI_7, ixN_50, ixN_51, ixN_52, ixN_53, ixN_54, ixN_30, ixN_31, ixN_32, put_same, put_put, true_and, and_true]
    rw [List.length_map]
    by_cases h8 : 0 < e
    · rw [if_pos (decide_eq_true (by omega))]
      rw [if_pos h8] at hout
      rw [show (xs.length : Int) - (b : Int) - (e : Int) = (out : Int) by omega]
      exact hN _ _ ⟨rfl, rfl⟩
    · rw [if_neg (by rw [decide_eq_false (by omega)]; decide)]
      rw [if_neg h8] at hout
      rw [← hout] at hN
      exact hN _ _ ⟨rfl, rfl⟩
  obtain ⟨rfl, rfl⟩ := hM
  have sz : ∀ (as bs : List Int), as.length ≤ 300000 → bs.length ≤ 300000 → (List.map Dv.int as).length + (List.map Dv.int bs).length ≤ sizeLine := fun as bs ha hb => by
    rw [sizeLine_eq, List.length_map, List.length_map]
    omega
  simp only [dSeq, dAsg, dRet, dRetN, dIfS, dNext, dDrop, dRaise, dBreak, dCont, dTest, dOp, dVar, dC, dCB, dCons, dNil, dCall, dAndV, dOrV, dNotV, dAndT, dOrT, dNotT, dIf, dTup, dLst, dSl, oSome, oNone, dNeg, gN, gT, gConsD, gNilD, gSubD, dChain, dPar, dAug, dLc, dFor, dBM, isLst, iSeqD, iR1, iR2, iR3, dYes, rdAdd, rdSub, rdMul, rdDiv, rdMod, rdPow, rdIAdd, rdCmp, rdIsN, isNon, rdEqG, rdIx, rdSet, rdSl, rdLen, rdInt1, rdInt, rdInt2, rdAppend, startN, wipeD, List.map_cons, List.map_nil, List.length_cons, List.length_nil, Nat.zero_add, Nat.sub_self, Nat.reduceAdd, Nat.reduceSub, List.replicate_succ, List.replicate_zero, List.cons_append, List.nil_append, List.append_nil, List.getElem?_cons_zero, List.getElem?_cons_succ, List.set_cons_zero, List.set_cons_succ, Option.some.injEq, exists_eq_left', DEnds.xd, atI_0, atI_1, atI_2, atI_3, atI_4, atI_5, atI_6, atI_7, ixN_50, ixN_51, ixN_52, ixN_53, ixN_54, ixN_30, ixN_31, ixN_32, put_same, put_put, true_and, and_true]
  refine ⟨0, b, rfl, by decide, by omega, 1, out, rfl, by decide, by omega, ?_⟩
  simp only [dSeq, dAsg, dRet, dRetN, dIfS, dNext, dDrop, dRaise, dBreak, dCont, dTest, dOp, dVar, dC, dCB, dCons, dNil, dCall, dAndV, dOrV, dNotV, dAndT, dOrT, dNotT, dIf, dTup, dLst, dSl, oSome, oNone, dNeg, gN, gT, gConsD, gNilD, gSubD, dChain, dPar, dAug, dLc, dFor, dBM, isLst, iSeqD, iR1, iR2, iR3, dYes, rdAdd, rdSub, rdMul, rdDiv, rdMod, rdPow, rdIAdd, rdCmp, rdIsN, isNon, rdEqG, rdIx, rdSet, rdSl, rdLen, rdInt1, rdInt, rdInt2, rdAppend, startN, wipeD, List.map_cons, List.map_nil, List.length_cons, List.length_nil, Nat.zero_add, Nat.sub_self, Nat.reduceAdd, Nat.reduceSub, List.replicate_succ, List.replicate_zero, List.cons_append, List.nil_append, List.append_nil, List.getElem?_cons_zero, List.getElem?_cons_succ, List.set_cons_zero, List.set_cons_succ, Option.some.injEq, exists_eq_left', DEnds.xd, atI_0, atI_1, atI_2, atI_3, atI_4, atI_5, atI_6, atI_7, ixN_50, ixN_51, ixN_52, ixN_53, ixN_54, ixN_30, ixN_31, ixN_32, put_same, put_put, true_and, and_true]
  refine ⟨?_, ?_⟩
  · simp only [List.length_map, List.length_append]; rw [sizeLine_eq]; omega
  rw [List.length_map]
  refine ⟨2, mid.length, rfl, by decide, by omega, ?_⟩
  simp only [dSeq, dAsg, dRet, dRetN, dIfS, dNext, dDrop, dRaise, dBreak, dCont, dTest, dOp, dVar, dC, dCB, dCons, dNil, dCall, dAndV, dOrV, dNotV, dAndT, dOrT, dNotT, dIf, dTup, dLst, dSl, oSome, oNone, dNeg, gN, gT, gConsD, gNilD, gSubD, dChain, dPar, dAug, dLc, dFor, dBM, isLst, iSeqD, iR1, iR2, iR3, dYes, rdAdd, rdSub, rdMul, rdDiv, rdMod, rdPow, rdIAdd, rdCmp, rdIsN, isNon, rdEqG, rdIx, rdSet, rdSl, rdLen, rdInt1, rdInt, rdInt2, rdAppend, startN, wipeD, List.map_cons, List.map_nil, List.length_cons, List.length_nil, Nat.zero_add, Nat.sub_self, Nat.reduceAdd, Nat.reduceSub, List.replicate_succ, List.replicate_zero, List.cons_append, List.nil_append, List.append_nil, List.getElem?_cons_zero, List.getElem?_cons_succ, List.set_cons_zero, List.set_cons_succ, Option.some.injEq, exists_eq_left', DEnds.xd, atI_0, atI_1, atI_2, atI_3, atI_4, atI_5, atI_6, atI_7, ixN_50, ixN_51, ixN_52, ixN_53, ixN_54, ixN_30, ixN_31, ixN_32, put_same, put_put, true_and, and_true]
  simp only [← List.map_append]
  refine ⟨?_, ?_, 0, e, rfl, by decide, by omega, ?_⟩
  · simp only [List.length_map, List.length_append]; rw [sizeLine_eq]; omega
  · simp only [List.length_map, List.length_append]; rw [sizeLine_eq]; omega
  simp only [dSeq, dAsg, dRet, dRetN, dIfS, dNext, dDrop, dRaise, dBreak, dCont, dTest, dOp, dVar, dC, dCB, dCons, dNil, dCall, dAndV, dOrV, dNotV, dAndT, dOrT, dNotT, dIf, dTup, dLst, dSl, oSome, oNone, dNeg, gN, gT, gConsD, gNilD, gSubD, dChain, dPar, dAug, dLc, dFor, dBM, isLst, iSeqD, iR1, iR2, iR3, dYes, rdAdd, rdSub, rdMul, rdDiv, rdMod, rdPow, rdIAdd, rdCmp, rdIsN, isNon, rdEqG, rdIx, rdSet, rdSl, rdLen, rdInt1, rdInt, rdInt2, rdAppend, startN, wipeD, List.map_cons, List.map_nil, List.length_cons, List.length_nil, Nat.zero_add, Nat.sub_self, Nat.reduceAdd, Nat.reduceSub, List.replicate_succ, List.replicate_zero, List.cons_append, List.nil_append, List.append_nil, List.getElem?_cons_zero, List.getElem?_cons_succ, List.set_cons_zero, List.set_cons_succ, Option.some.injEq, exists_eq_left', DEnds.xd, atI_0, atI_1, atI_2, atI_3, atI_4, atI_5, atI_6, atI_7, ixN_50, ixN_51, ixN_52, ixN_53, ixN_54, ixN_30, ixN_31, ixN_32, put_same, put_put, true_and, and_true]
  simp only [← List.map_append]
  refine ⟨?_, h⟩
  simp only [List.length_map, List.length_append]
  rw [sizeLine_eq]
  omega
theorem shp_two (l : List Int) : shp (.tup [.tup (List.map Dv.int l), .non]) = true := by
  unfold shp SeqAt.shaped
  have h := depth_ints l
  simp [isD, isDL, py, pyL, isDL_ints, PyData.canLay0, PyData.canLayAll0, canLay_ints, PyData.depth, PyData.depthAll]
  omega
theorem res_eq {r : Option (List Int) × Nat} {ys : List Int} {S : Sto} {Q : QD} (q : Q (.bl (decide (r.1 = some ys))) S) : rdEq (resD r) (.tup [.tup (List.map Dv.int ys), .non]) S Q := by
  obtain ⟨o, p⟩ := r
  cases o with
  | none =>
    refine ⟨⟨by rfl, shp_two ys⟩, ?_⟩
    exact q
  | some l =>
    refine ⟨⟨shp_two l, shp_two ys⟩, ?_⟩
    have e : eqvL [.tup (List.map Dv.int l), .non] [.tup (List.map Dv.int ys), .non] = decide (l = ys) := by
      have := eqvL_ints l ys
      unfold eqvL at this ⊢
      simp only [pyL, py, PyData.eqvAll, PyData.eqv, this, Bool.and_true]
    rw [e]
    simpa using q
theorem rd_change (c : Addr) : Rd (r_change c) 2 (sp_change c) := by
  rintro ds S Q X ⟨xs, ys, ⟨rfl, h1, h2⟩, h⟩
  unfold r_change
  simp only [dSeq, dAsg, dRet, dRetN, dIfS, dNext, dDrop, dRaise, dBreak, dCont, dTest, dOp, dVar, dC, dCB, dCons, dNil, dCall, dAndV, dOrV, dNotV, dAndT, dOrT, dNotT, dIf, dTup, dLst, dSl, oSome, oNone, dNeg, gN, gT, gConsD, gNilD, gSubD, dChain, dPar, dAug, dLc, dFor, dBM, isLst, iSeqD, iR1, iR2, iR3, dYes, rdAdd, rdSub, rdMul, rdDiv, rdMod, rdPow, rdIAdd, rdCmp, rdIsN, isNon, rdEqG, rdIx, rdSet, rdSl, rdLen, rdInt1, rdInt, rdInt2, rdAppend, startN, wipeD, List.map_cons, List.map_nil, List.length_cons, List.length_nil, Nat.zero_add, Nat.sub_self, Nat.reduceAdd, Nat.reduceSub, List.replicate_succ, List.replicate_zero, List.cons_append, List.nil_append, List.append_nil, List.getElem?_cons_zero, List.getElem?_cons_succ, List.set_cons_zero, List.set_cons_succ, Option.some.injEq, exists_eq_left', DEnds.xd, atI_0, atI_1, atI_2, atI_3, atI_4, atI_5, atI_6, atI_7, ixN_50, ixN_51, ixN_52, ixN_53, ixN_54, ixN_30, ixN_31, ixN_32, put_same, put_put, true_and, and_true]
  refine ⟨_, rfl, knownL_ints, ?_⟩
  rw [if_pos (isRow_ints h1.ok)]
  refine ⟨_, rfl, knownL_ints, ?_⟩
  rw [if_pos (isRow_ints h2.ok)]
  exact ⟨xs, ys, ⟨rfl, h1, h2⟩, h⟩
theorem rd_is_change (c : Addr) : Rd (r_is_change c) 3 (sp_is_change c) := by
  rintro ds S Q X ⟨xs, ys, d, rfl, h1, h2, hk, h⟩
  unfold r_is_change
  simp only [dSeq, dAsg, dRet, dRetN, dIfS, dNext, dDrop, dRaise, dBreak, dCont, dTest, dOp, dVar, dC, dCB, dCons, dNil, dCall, dAndV, dOrV, dNotV, dAndT, dOrT, dNotT, dIf, dTup, dLst, dSl, oSome, oNone, dNeg, gN, gT, gConsD, gNilD, gSubD, dChain, dPar, dAug, dLc, dFor, dBM, isLst, iSeqD, iR1, iR2, iR3, dYes, rdAdd, rdSub, rdMul, rdDiv, rdMod, rdPow, rdIAdd, rdCmp, rdIsN, isNon, rdEqG, rdIx, rdSet, rdSl, rdLen, rdInt1, rdInt, rdInt2, rdAppend, startN, wipeD, List.map_cons, List.map_nil, List.length_cons, List.length_nil, Nat.zero_add, Nat.sub_self, Nat.reduceAdd, Nat.reduceSub, List.replicate_succ, List.replicate_zero, List.cons_append, List.nil_append, List.append_nil, List.getElem?_cons_zero, List.getElem?_cons_succ, List.set_cons_zero, List.set_cons_succ, Option.some.injEq, exists_eq_left', DEnds.xd, atI_0, atI_1, atI_2, atI_3, atI_4, atI_5, atI_6, atI_7, ixN_50, ixN_51, ixN_52, ixN_53, ixN_54, ixN_30, ixN_31, ixN_32, put_same, put_put, true_and, and_true]
  refine ⟨_, rfl, knownL_ints, ?_⟩
  rw [if_pos (isRow_ints h1.ok)]
  refine ⟨_, rfl, knownL_ints, ?_⟩
  rw [if_pos (isRow_ints h2.ok)]
  refine ⟨d, rfl, hk, ?_⟩
  rcases h with ⟨hr, h⟩ | ⟨zs, rfl, hz, h⟩
  · rw [hr]
    exact h
  · rw [isRow_ints hz.ok]
    refine ⟨xs, zs, ⟨rfl, h1, hz⟩, fun S' hs => ⟨by rw [sizeLine_eq]; decide, ?_⟩⟩
    exact res_eq (h S' hs)
end Lw

namespace Lw
open PySem PySem.Spec PyProof.Rows L2 VD
/-! ### what a made change makes -/
def run (one ch found : List Int) (here i : Nat) : Option (List Int) × Nat := resF (ch.length - i + 1) one ch found here i
theorem partO_at (pre tail : List Int) (k m : Nat) (hk : k < 3) (hm : 0 < m) (hm2 : m < 1000000) : partO (pre ++ partR k m ++ tail) pre.length =
    if k = 2 ∧ (pre ++ partR k m ++ tail).length < pre.length + (partR k m).length + m then none else some (k, m, pre.length + (partR k m).length) := by
  unfold partO
  have e : partR k m = figs ((3 * m + k : Nat) : Int) := if_pos hm
  rw [e, rdO_figs pre tail (3 * m + k) (by omega)]
  dsimp only
  rw [show (3 * m + k) / 3 = m by omega, show (3 * m + k) % 3 = k by omega]
  by_cases h : k = 2 ∧ (pre ++ figs ((3 * m + k : Nat) : Int) ++ tail).length < pre.length + (figs ((3 * m + k : Nat) : Int)).length + m
  · rw [if_pos h, if_pos (.inr h)]
  · rw [if_neg h, if_neg]
    rintro (h1 | h1)
    · omega
    · exact h h1
theorem partR_pos {k m : Nat} (hm : 0 < m) : 1 ≤ (partR k m).length := by
  unfold partR
  rw [if_pos hm]
  exact (figF_len 9 _).1
theorem run_one {one ch found : List Int} {here i : Nat} (hi : i < ch.length) {kind many b : Nat} (hp : partO ch i = some (kind, many, b)) :
    run one ch found here i = if kind = 2 then run one ch (found ++ (ch.drop b).take many) here (b + many) else if one.length < here + many then (none, i) else run one ch (if kind = 0 then found ++ (one.drop here).take many else found) (here + many) b := by
  have hb := partO_ok hp
  unfold run
  rw [resF, if_neg (by omega), hp]
  dsimp only
  by_cases h2 : kind = 2
  · rw [if_pos h2, if_pos h2]
    have := hb.2.2.2.2 h2
    exact resF_any (by omega) (by omega) (by omega)
  · rw [if_neg h2, if_neg h2]
    by_cases h3 : one.length < here + many
    · rw [if_pos h3, if_pos h3]
    · rw [if_neg h3, if_neg h3]
      exact resF_any hb.2.1 (by omega) (by omega)
theorem run_kept (one pre tail found : List Int) (here m : Nat) (hm : m < 1000000) (hh : here + m ≤ one.length) :
    run one (pre ++ partR 0 m ++ tail) found here pre.length = run one (pre ++ partR 0 m ++ tail) (found ++ (one.drop here).take m) (here + m) (pre ++ partR 0 m).length := by
  by_cases h0 : 0 < m
  · have hp := partO_at pre tail 0 m (by decide) h0 hm
    rw [if_neg (by omega)] at hp
    have := partR_pos (k := 0) h0
    rw [run_one (by simp; omega) hp, if_neg (by decide), if_neg (by omega), if_pos rfl, List.length_append]
  · have : m = 0 := by omega
    subst this
    simp [partR]
theorem run_out (one pre tail found : List Int) (here m : Nat) (hm : m < 1000000) (hh : here + m ≤ one.length) :
    run one (pre ++ partR 1 m ++ tail) found here pre.length = run one (pre ++ partR 1 m ++ tail) found (here + m) (pre ++ partR 1 m).length := by
  by_cases h0 : 0 < m
  · have hp := partO_at pre tail 1 m (by decide) h0 hm
    rw [if_neg (by omega)] at hp
    have := partR_pos (k := 1) h0
    rw [run_one (by simp; omega) hp, if_neg (by decide), if_neg (by omega), if_neg (by decide), List.length_append]
  · have : m = 0 := by omega
    subst this
    simp [partR]
theorem run_put (one pre mid tail found : List Int) (here : Nat) (hm : mid.length < 1000000) :
    run one (pre ++ partR 2 mid.length ++ (mid ++ tail)) found here pre.length = run one (pre ++ partR 2 mid.length ++ (mid ++ tail)) (found ++ mid) here (pre ++ partR 2 mid.length ++ mid).length := by
  by_cases h0 : 0 < mid.length
  · have hp := partO_at pre (mid ++ tail) 2 mid.length (by decide) h0 hm
    have := partR_pos (k := 2) h0
    rw [if_neg (by simp; omega)] at hp
    rw [run_one (by simp; omega) hp, if_pos rfl]
    have e : (pre ++ partR 2 mid.length ++ (mid ++ tail)).drop (pre.length + (partR 2 mid.length).length) = mid ++ tail := by
      rw [← List.length_append, List.drop_left]
    rw [e, List.take_left]
    congr 1
    simp
    omega
  · have : mid = [] := List.length_eq_zero_iff.mp (by omega)
    subst this
    simp [partR]
theorem run_end (one ch found : List Int) (here : Nat) : run one ch found here ch.length = (some found, ch.length) := by
  unfold run
  rw [resF, if_pos rfl]
theorem comB_take : ∀ (xs ys : List Int) (k : Nat), k ≤ comB xs ys → xs.take k = ys.take k
  | [], _, k, h => by
    simp [comB] at h
    subst h
    rfl
  | _ :: _, [], k, h => by
    simp [comB] at h
    subst h
    rfl
  | x :: xs, y :: ys, k, h => by
    cases k with
    | zero => rfl
    | succ k =>
      unfold comB at h
      split at h
      · rename_i e
        subst e
        rw [List.take_succ_cons, List.take_succ_cons, comB_take xs ys k (by omega)]
      · omega
theorem comE_drop {xs ys : List Int} {m k : Nat} (h : k ≤ comE xs ys m) (h1 : m ≤ xs.length) (h2 : m ≤ ys.length) : xs.drop (xs.length - k) = ys.drop (ys.length - k) := by
  have hk := comE_le xs ys m
  have e := comB_take _ _ k h
  rw [List.take_take, List.take_take, Nat.min_eq_left (by omega)] at e
  have e2 := congrArg List.reverse e
  rw [List.reverse_take, List.reverse_take] at e2
  simpa using e2
theorem res_chg {xs ys : List Int} (h1 : xs.length ≤ 200000) (h2 : ys.length ≤ 200000) : (res xs (chgF xs ys)).1 = some ys := by
  have hb := comB_le xs ys
  have hpre := comB_take xs ys
  have he := comE_le xs ys (min xs.length ys.length - comB xs ys)
  have hsuf := fun k h => comE_drop (xs := xs) (ys := ys) (m := min xs.length ys.length - comB xs ys) (k := k) h (by omega) (by omega)
  unfold chgF
  dsimp only
  generalize comB xs ys = b0 at *
  generalize comE xs ys (min xs.length ys.length - b0) = e0 at *
  have hbb : (if b0 < 8 then 0 else b0) ≤ b0 := by split <;> omega
  have hee : (if e0 < 8 then 0 else e0) ≤ e0 := by split <;> omega
  generalize (if b0 < 8 then 0 else b0 : Nat) = b at *
  generalize (if e0 < 8 then 0 else e0 : Nat) = e at *
  have q1 := hpre b hbb
  have q2 := hsuf e hee
  generalize hmid : (ys.drop b).take (ys.length - e - b) = mid
  have hml : mid.length ≤ ys.length := by rw [← hmid, List.length_take, List.length_drop]; omega
  generalize hout : (if 0 < e then xs.length - b - e else 0 : Nat) = out
  have hol : b + out + e ≤ xs.length := by rw [← hout]; split <;> omega
  have s1 : partR 0 b ++ partR 1 out ++ partR 2 mid.length ++ mid ++ partR 0 e = [] ++ partR 0 b ++ (partR 1 out ++ partR 2 mid.length ++ mid ++ partR 0 e) := by simp
  have s2 : partR 0 b ++ partR 1 out ++ partR 2 mid.length ++ mid ++ partR 0 e = ([] ++ partR 0 b) ++ partR 1 out ++ (partR 2 mid.length ++ mid ++ partR 0 e) := by simp
  have s3 : partR 0 b ++ partR 1 out ++ partR 2 mid.length ++ mid ++ partR 0 e = ([] ++ partR 0 b ++ partR 1 out) ++ partR 2 mid.length ++ (mid ++ partR 0 e) := by simp
  have s4 : partR 0 b ++ partR 1 out ++ partR 2 mid.length ++ mid ++ partR 0 e = ([] ++ partR 0 b ++ partR 1 out ++ partR 2 mid.length ++ mid) ++ partR 0 e ++ [] := by simp
  have r0 : ∀ ch, res xs ch = run xs ch [] 0 ([] : List Int).length := fun ch => rfl
  rw [r0]
  have w1 := run_kept xs [] (partR 1 out ++ partR 2 mid.length ++ mid ++ partR 0 e) [] 0 b (by omega) (by omega)
  rw [← s1] at w1
  have w2 := run_out xs ([] ++ partR 0 b) (partR 2 mid.length ++ mid ++ partR 0 e) ([] ++ (xs.drop 0).take b) (0 + b) out (by omega) (by omega)
  rw [← s2] at w2
  have w3 := run_put xs ([] ++ partR 0 b ++ partR 1 out) mid (partR 0 e) ([] ++ (xs.drop 0).take b) (0 + b + out) (by omega)
  rw [← s3] at w3
  have w4 := run_kept xs ([] ++ partR 0 b ++ partR 1 out ++ partR 2 mid.length ++ mid) [] ([] ++ (xs.drop 0).take b ++ mid) (0 + b + out) e (by omega) (by omega)
  rw [← s4] at w4
  rw [w1, w2, w3, w4]
  have s5 : ([] ++ partR 0 b ++ partR 1 out ++ partR 2 mid.length ++ mid ++ partR 0 e).length = (partR 0 b ++ partR 1 out ++ partR 2 mid.length ++ mid ++ partR 0 e).length := by simp
  rw [s5, run_end]
  dsimp only
  congr 1
  rw [List.nil_append, List.drop_zero, q1, Nat.zero_add]
  by_cases h0 : 0 < e
  · rw [if_pos h0] at hout
    have t1 : (ys.drop (ys.length - e)).take e = ys.drop (ys.length - e) := List.take_of_length_le (by rw [List.length_drop]; omega)
    rw [show b + out = xs.length - e by omega, q2, t1, ← hmid]
    have c1 : (ys.drop b).drop (ys.length - e - b) = ys.drop (ys.length - e) := by rw [List.drop_drop]; congr 1; omega
    rw [← c1, List.append_assoc, List.take_append_drop (ys.length - e - b) (ys.drop b), List.take_append_drop]
  · have : e = 0 := by omega
    subst this
    have t1 : (ys.drop b).take (ys.length - 0 - b) = ys.drop b := List.take_of_length_le (by rw [List.length_drop]; omega)
    rw [List.take_zero, List.append_nil, ← hmid, t1, List.take_append_drop]
end Lw

namespace Lw
open PySem PySem.Spec PyProof.Rows L2 VD
theorem figs_two {n : Int} (h0 : 0 ≤ n) (h : n < 16384) : (figs n).length ≤ 2 := by
  unfold figs
  rw [figF]
  split
  · simp
  · rw [figF, if_pos (by omega)]
    simp
theorem partR_two {k m : Nat} (hk : k < 3) (hm : m ≤ 5000) : (partR k m).length ≤ 2 := by
  unfold partR
  split
  · exact figs_two (by omega) (by omega)
  · simp
theorem comB_self : ∀ xs : List Int, comB xs xs = xs.length
  | [] => rfl
  | x :: xs => by
    unfold comB
    rw [if_pos rfl, comB_self xs]
    rfl
theorem chg_len {xs ys : List Int} (h1 : xs.length ≤ 5000) (h2 : ys.length ≤ 5000) : (chgF xs ys).length ≤ ys.length + 11 := by
  have hb := comB_le xs ys
  have he := comE_le xs ys (min xs.length ys.length - comB xs ys)
  unfold chgF
  dsimp only
  generalize comB xs ys = b0 at *
  generalize comE xs ys (min xs.length ys.length - b0) = e0 at *
  have hbb : (if b0 < 8 then 0 else b0) ≤ b0 := by split <;> omega
  have hee : (if e0 < 8 then 0 else e0) ≤ e0 := by split <;> omega
  generalize (if b0 < 8 then 0 else b0 : Nat) = b at *
  generalize (if e0 < 8 then 0 else e0 : Nat) = e at *
  generalize hmid : (ys.drop b).take (ys.length - e - b) = mid
  have hml : mid.length ≤ ys.length := by rw [← hmid, List.length_take, List.length_drop]; omega
  generalize hout : (if 0 < e then xs.length - b - e else 0 : Nat) = out
  have hol : out ≤ xs.length := by rw [← hout]; split <;> omega
  have p0 := partR_two (k := 0) (m := b) (by decide) (by omega)
  have p1 := partR_two (k := 1) (m := out) (by decide) (by omega)
  have p2 := partR_two (k := 2) (m := mid.length) (by decide) (by omega)
  have p3 := partR_two (k := 0) (m := e) (by decide) (by omega)
  simp only [List.length_append]
  omega
theorem chg_self {xs : List Int} (h1 : xs.length ≤ 5000) : (chgF xs xs).length ≤ 11 := by
  have he := comE_le xs xs (min xs.length xs.length - comB xs xs)
  unfold chgF
  dsimp only
  rw [comB_self] at *
  generalize comE xs xs (min xs.length xs.length - xs.length) = e0 at *
  have e00 : e0 = 0 := by omega
  subst e00
  rw [if_pos (by decide : (0 : Nat) < 8)]
  have hbb : (if xs.length < 8 then 0 else xs.length) ≤ xs.length ∧ xs.length - (if xs.length < 8 then 0 else xs.length) ≤ 7 := by split <;> omega
  generalize (if xs.length < 8 then 0 else xs.length : Nat) = b at *
  generalize hmid : (xs.drop b).take (xs.length - 0 - b) = mid
  have hml : mid.length ≤ 7 := by rw [← hmid, List.length_take, List.length_drop]; omega
  have p0 := partR_two (k := 0) (m := b) (by decide) (by omega)
  have p2 := partR_two (k := 2) (m := mid.length) (by decide) (by omega)
  rw [if_neg (by decide)]
  have p1 : (partR 1 0).length = 0 := rfl
  have p3 : (partR 0 0).length = 0 := rfl
  simp only [List.length_append]
  omega
theorem chg_by {xs ys : List Int} (h1 : xs.length ≤ 200000) (h2 : sr ys) : ∀ n ∈ chgF xs ys, 0 ≤ n ∧ n < 256 := by
  have hb := comB_le xs ys
  have he := comE_le xs ys (min xs.length ys.length - comB xs ys)
  have l2 := h2.1
  unfold chgF
  dsimp only
  generalize comB xs ys = b0 at *
  generalize comE xs ys (min xs.length ys.length - b0) = e0 at *
  have hbb : (if b0 < 8 then 0 else b0) ≤ b0 := by split <;> omega
  have hee : (if e0 < 8 then 0 else e0) ≤ e0 := by split <;> omega
  generalize (if b0 < 8 then 0 else b0 : Nat) = b at *
  generalize (if e0 < 8 then 0 else e0 : Nat) = e at *
  generalize hmid : (ys.drop b).take (ys.length - e - b) = mid
  have hml : mid.length ≤ ys.length := by rw [← hmid, List.length_take, List.length_drop]; omega
  have hmb : ∀ n ∈ mid, 0 ≤ n ∧ n < 256 := fun n hn => h2.2 n (List.mem_of_mem_drop (List.mem_of_mem_take (by rw [hmid]; exact hn)))
  generalize hout : (if 0 < e then xs.length - b - e else 0 : Nat) = out
  have hol : out ≤ xs.length := by rw [← hout]; split <;> omega
  have pb : ∀ k m : Nat, k < 3 → m ≤ 200000 → ∀ n ∈ partR k m, 0 ≤ n ∧ n < 256 := by
    intro k m hk hm n hn
    unfold partR at hn
    split at hn
    · exact figF_ok 9 _ (by omega) (by have : (128 : Int) ^ (9 + 1) = 1180591620717411303424 := by decide
                                       omega) n hn
    · cases hn
  intro n hn
  simp only [List.mem_append] at hn
  rcases hn with (((hn | hn) | hn) | hn) | hn
  · exact pb _ _ (by decide) (by omega) n hn
  · exact pb _ _ (by decide) (by omega) n hn
  · exact pb _ _ (by decide) (by omega) n hn
  · exact hmb n hn
  · exact pb _ _ (by decide) (by omega) n hn
end Lw

namespace Lw
open PySem PySem.Spec PyProof.Rows L2 VD
theorem Sub.tr {S T U : Sto} (h : VD.Sub S T) (g : VD.Sub T U) : VD.Sub S U := fun a m e => g a m (h a m e)
theorem hd_sub {a c : Addr} {S T : Sto} (h : Hand S a c) (s : VD.Sub S T) : Hd a c S T := by
  obtain ⟨i, g, k, n, cells, ha, hc, hca, hi⟩ := h
  exact ⟨⟨i, g, k, n, cells, s _ _ ha, s _ _ hc, hca, hi⟩, fun b m _ e => s b m e⟩
theorem okR.sr {k : Nat} {xs : List Int} (h : okR k xs) (hk : k ≤ 200000 := by decide) : sr xs := ⟨by have := h.1; omega, h.2⟩
theorem plain2 {n : Nat} {x y : Dv} (hx : plain n x) (hy : plain n y) : plain (n + 1) (.tup [x, y]) := ⟨by rw [sizeLine_eq]; simp, fun z hz => by
  simp only [List.mem_cons, List.not_mem_nil, or_false] at hz
  rcases hz with rfl | rfl
  · exact hx
  · exact hy⟩
theorem plain_ints {ns : List Int} (h : ns.length ≤ 10000000) (k : Nat) : plain (k + 2) (.tup (List.map Dv.int ns)) := ⟨by rw [sizeLine_eq, List.length_map]; omega, fun x hx => by
  obtain ⟨n, _, rfl⟩ := List.mem_map.mp hx
  trivial⟩
theorem is_q {d : Dv} {S : Sto} {Q : QD} {X : XD} (h : plain 4 d) (q : Q (.bl true) S) : sp__law_is 4 [d, d] S Q X := ⟨d, rfl, h, q⟩
theorem rd__law_changed_told (c d e : Addr) : Rd (r__law_changed_told c d e) 3 (sp__law_changed_told c d e) := by
  rintro ds S Q X ⟨xs, ys, ⟨rfl, h1, h2⟩, h⟩
  unfold r__law_changed_told dTake exTake offD dXf
  simp only [dSeq, dAsg, dRet, dRetN, dIfS, dNext, dDrop, dRaise, dBreak, dCont, dTest, dOp, dVar, dC, dCB, dCons, dNil, dCall, dAndV, dOrV, dNotV, dAndT, dOrT, dNotT, dIf, dTup, dLst, dSl, oSome, oNone, dNeg, gN, gT, gConsD, gNilD, gSubD, dChain, dPar, dAug, dLc, dFor, dBM, isLst, iSeqD, iR1, iR2, iR3, dYes, rdAdd, rdSub, rdMul, rdDiv, rdMod, rdPow, rdIAdd, rdCmp, rdIsN, isNon, rdEqG, rdIx, rdSet, rdSl, rdLen, rdInt1, rdInt, rdInt2, rdAppend, startN, wipeD, List.map_cons, List.map_nil, List.length_cons, List.length_nil, Nat.zero_add, Nat.sub_self, Nat.reduceAdd, Nat.reduceSub, List.replicate_succ, List.replicate_zero, List.cons_append, List.nil_append, List.append_nil, List.getElem?_cons_zero, List.getElem?_cons_succ, List.set_cons_zero, List.set_cons_succ, Option.some.injEq, exists_eq_left', DEnds.xd, atI_0, atI_1, atI_2, atI_3, atI_4, atI_5, atI_6, atI_7, ixN_50, ixN_51, ixN_52, ixN_53, ixN_54, ixN_30, ixN_31, ixN_32, put_same, put_put, true_and, and_true]
  have s2 : 2 ≤ sizeLine := by rw [sizeLine_eq]; decide
  refine ⟨xs, ys, ⟨rfl, h1, h2⟩, ?_⟩
  cases er : res xs ys with
  | mk r p =>
    rw [er] at h
    cases r with
    | some l => exact fun S' hs => ⟨s2, h _ hs⟩
    | none =>
      refine fun S' dx hs hdx => ⟨by simp, fun a ha => ?_⟩
      simp only [dSeq, dAsg, dRet, dRetN, dIfS, dNext, dDrop, dRaise, dBreak, dCont, dTest, dOp, dVar, dC, dCB, dCons, dNil, dCall, dAndV, dOrV, dNotV, dAndT, dOrT, dNotT, dIf, dTup, dLst, dSl, oSome, oNone, dNeg, gN, gT, gConsD, gNilD, gSubD, dChain, dPar, dAug, dLc, dFor, dBM, isLst, iSeqD, iR1, iR2, iR3, dYes, rdAdd, rdSub, rdMul, rdDiv, rdMod, rdPow, rdIAdd, rdCmp, rdIsN, isNon, rdEqG, rdIx, rdSet, rdSl, rdLen, rdInt1, rdInt, rdInt2, rdAppend, startN, wipeD, List.map_cons, List.map_nil, List.length_cons, List.length_nil, Nat.zero_add, Nat.sub_self, Nat.reduceAdd, Nat.reduceSub, List.replicate_succ, List.replicate_zero, List.cons_append, List.nil_append, List.append_nil, List.getElem?_cons_zero, List.getElem?_cons_succ, List.set_cons_zero, List.set_cons_succ, Option.some.injEq, exists_eq_left', DEnds.xd, atI_0, atI_1, atI_2, atI_3, atI_4, atI_5, atI_6, atI_7, ixN_50, ixN_51, ixN_52, ixN_53, ixN_54, ixN_30, ixN_31, ixN_32, put_same, put_put, true_and, and_true]
      exact ⟨dx, [(Str.ofString "place", .int p)], .int p, rfl, put_same, rfl, s2, h _ (Sub.tr hs (VD.Sub.new hdx))⟩
/-- what is made is no longer than the two rows together -/
theorem resF_len : ∀ (k : Nat) (one ch found : List Int) (here i : Nat) (l : List Int), here ≤ one.length → i ≤ ch.length → found.length ≤ here + i → (resF k one ch found here i).1 = some l → l.length ≤ one.length + ch.length
  | 0, _, _, _, _, _, _, _, _, _, h => by cases h
  | k + 1, one, ch, found, here, i, l, h1, h2, h3, h => by
    rw [resF] at h
    split at h
    · cases h; omega
    · cases hp : partO ch i with
      | none => rw [hp] at h; cases h
      | some p =>
        obtain ⟨kind, many, b⟩ := p
        have hb := partO_ok hp
        rw [hp] at h
        dsimp only at h
        split at h
        · rename_i h9
          have := hb.2.2.2.2 h9
          exact resF_len k one ch _ _ _ l h1 (by omega) (by rw [List.length_append, List.length_take]; omega) h
        · split at h
          · cases h
          · refine resF_len k one ch _ _ _ l (by omega) hb.2.1 ?_ h
            split
            · rw [List.length_append, List.length_take]; omega
            · omega
theorem res_len {xs ys l : List Int} (h : (res xs ys).1 = some l) : l.length ≤ xs.length + ys.length := resF_len _ xs ys [] 0 0 l (by omega) (by omega) (by simp) h
theorem plain_toldC {xs ys : List Int} (h1 : sr xs) (h2 : sr ys) : plain 4 (toldC (res xs ys)) := by
  have l1 := h1.1
  have l2 := h2.1
  have hl := fun l => res_len (xs := xs) (ys := ys) (l := l)
  cases er : res xs ys with
  | mk r p =>
    rw [er] at hl
    cases r with
    | some l => exact plain2 (n := 3) trivial (plain_ints (by have := hl l rfl; omega) 1)
    | none => exact plain2 (n := 3) trivial trivial
theorem rd__law_is_told (c d e : Addr) : Rd (r__law_is_told c d e) 6 (sp__law_is_told c d e) := by
  rintro ds S Q X ⟨xs, ys, zs, rfl, h1, h2, h3, h⟩
  unfold r__law_is_told
  have s2 : 2 ≤ sizeLine := by rw [sizeLine_eq]; decide
  have hp := plain_toldC h1 h3
  simp only [dSeq, dAsg, dRet, dRetN, dIfS, dNext, dDrop, dRaise, dBreak, dCont, dTest, dOp, dVar, dC, dCB, dCons, dNil, dCall, dAndV, dOrV, dNotV, dAndT, dOrT, dNotT, dIf, dTup, dLst, dSl, oSome, oNone, dNeg, gN, gT, gConsD, gNilD, gSubD, dChain, dPar, dAug, dLc, dFor, dBM, isLst, iSeqD, iR1, iR2, iR3, dYes, rdAdd, rdSub, rdMul, rdDiv, rdMod, rdPow, rdIAdd, rdCmp, rdIsN, isNon, rdEqG, rdIx, rdSet, rdSl, rdLen, rdInt1, rdInt, rdInt2, rdAppend, startN, wipeD, List.map_cons, List.map_nil, List.length_cons, List.length_nil, Nat.zero_add, Nat.sub_self, Nat.reduceAdd, Nat.reduceSub, List.replicate_succ, List.replicate_zero, List.cons_append, List.nil_append, List.append_nil, List.getElem?_cons_zero, List.getElem?_cons_succ, List.set_cons_zero, List.set_cons_succ, Option.some.injEq, exists_eq_left', DEnds.xd, atI_0, atI_1, atI_2, atI_3, atI_4, atI_5, atI_6, atI_7, ixN_50, ixN_51, ixN_52, ixN_53, ixN_54, ixN_30, ixN_31, ixN_32, put_same, put_put, true_and, and_true]
  refine ⟨xs, zs, ⟨rfl, h1, h3⟩, fun S1 hs1 => ?_⟩
  cases er : res xs zs with
  | mk r p =>
    rw [er] at hp
    cases r with
    | none =>
      refine ⟨rfl, ?_⟩
      simp only [dSeq, dAsg, dRet, dRetN, dIfS, dNext, dDrop, dRaise, dBreak, dCont, dTest, dOp, dVar, dC, dCB, dCons, dNil, dCall, dAndV, dOrV, dNotV, dAndT, dOrT, dNotT, dIf, dTup, dLst, dSl, oSome, oNone, dNeg, gN, gT, gConsD, gNilD, gSubD, dChain, dPar, dAug, dLc, dFor, dBM, isLst, iSeqD, iR1, iR2, iR3, dYes, rdAdd, rdSub, rdMul, rdDiv, rdMod, rdPow, rdIAdd, rdCmp, rdIsN, isNon, rdEqG, rdIx, rdSet, rdSl, rdLen, rdInt1, rdInt, rdInt2, rdAppend, startN, wipeD, List.map_cons, List.map_nil, List.length_cons, List.length_nil, Nat.zero_add, Nat.sub_self, Nat.reduceAdd, Nat.reduceSub, List.replicate_succ, List.replicate_zero, List.cons_append, List.nil_append, List.append_nil, List.getElem?_cons_zero, List.getElem?_cons_succ, List.set_cons_zero, List.set_cons_succ, Option.some.injEq, exists_eq_left', DEnds.xd, atI_0, atI_1, atI_2, atI_3, atI_4, atI_5, atI_6, atI_7, ixN_50, ixN_51, ixN_52, ixN_53, ixN_54, ixN_30, ixN_31, ixN_32, put_same, put_put, true_and, and_true]
      refine ⟨xs, zs, ⟨rfl, h1, h3⟩, fun S2 hs2 => ?_⟩
      rw [er]
      simp only [dSeq, dAsg, dRet, dRetN, dIfS, dNext, dDrop, dRaise, dBreak, dCont, dTest, dOp, dVar, dC, dCB, dCons, dNil, dCall, dAndV, dOrV, dNotV, dAndT, dOrT, dNotT, dIf, dTup, dLst, dSl, oSome, oNone, dNeg, gN, gT, gConsD, gNilD, gSubD, dChain, dPar, dAug, dLc, dFor, dBM, isLst, iSeqD, iR1, iR2, iR3, dYes, rdAdd, rdSub, rdMul, rdDiv, rdMod, rdPow, rdIAdd, rdCmp, rdIsN, isNon, rdEqG, rdIx, rdSet, rdSl, rdLen, rdInt1, rdInt, rdInt2, rdAppend, startN, wipeD, List.map_cons, List.map_nil, List.length_cons, List.length_nil, Nat.zero_add, Nat.sub_self, Nat.reduceAdd, Nat.reduceSub, List.replicate_succ, List.replicate_zero, List.cons_append, List.nil_append, List.append_nil, List.getElem?_cons_zero, List.getElem?_cons_succ, List.set_cons_zero, List.set_cons_succ, Option.some.injEq, exists_eq_left', DEnds.xd, atI_0, atI_1, atI_2, atI_3, atI_4, atI_5, atI_6, atI_7, ixN_50, ixN_51, ixN_52, ixN_53, ixN_54, ixN_30, ixN_31, ixN_32, put_same, put_put, true_and, and_true]
      rw [if_pos trivial]
      refine ⟨s2, is_q hp (iteF ⟨xs, ys, _, rfl, h1, h2, knownL_ints, .inr ⟨zs, rfl, h3, fun S3 hs3 => ?_⟩⟩)⟩
      rw [er]
      exact ⟨.bl false, by simp, trivial, h _ (Sub.tr hs1 (Sub.tr hs2 hs3))⟩
    | some l =>
      refine ⟨rfl, ?_⟩
      simp only [dSeq, dAsg, dRet, dRetN, dIfS, dNext, dDrop, dRaise, dBreak, dCont, dTest, dOp, dVar, dC, dCB, dCons, dNil, dCall, dAndV, dOrV, dNotV, dAndT, dOrT, dNotT, dIf, dTup, dLst, dSl, oSome, oNone, dNeg, gN, gT, gConsD, gNilD, gSubD, dChain, dPar, dAug, dLc, dFor, dBM, isLst, iSeqD, iR1, iR2, iR3, dYes, rdAdd, rdSub, rdMul, rdDiv, rdMod, rdPow, rdIAdd, rdCmp, rdIsN, isNon, rdEqG, rdIx, rdSet, rdSl, rdLen, rdInt1, rdInt, rdInt2, rdAppend, startN, wipeD, List.map_cons, List.map_nil, List.length_cons, List.length_nil, Nat.zero_add, Nat.sub_self, Nat.reduceAdd, Nat.reduceSub, List.replicate_succ, List.replicate_zero, List.cons_append, List.nil_append, List.append_nil, List.getElem?_cons_zero, List.getElem?_cons_succ, List.set_cons_zero, List.set_cons_succ, Option.some.injEq, exists_eq_left', DEnds.xd, atI_0, atI_1, atI_2, atI_3, atI_4, atI_5, atI_6, atI_7, ixN_50, ixN_51, ixN_52, ixN_53, ixN_54, ixN_30, ixN_31, ixN_32, put_same, put_put, true_and, and_true]
      refine ⟨xs, zs, ⟨rfl, h1, h3⟩, fun S2 hs2 => ?_⟩
      rw [er]
      simp only [dSeq, dAsg, dRet, dRetN, dIfS, dNext, dDrop, dRaise, dBreak, dCont, dTest, dOp, dVar, dC, dCB, dCons, dNil, dCall, dAndV, dOrV, dNotV, dAndT, dOrT, dNotT, dIf, dTup, dLst, dSl, oSome, oNone, dNeg, gN, gT, gConsD, gNilD, gSubD, dChain, dPar, dAug, dLc, dFor, dBM, isLst, iSeqD, iR1, iR2, iR3, dYes, rdAdd, rdSub, rdMul, rdDiv, rdMod, rdPow, rdIAdd, rdCmp, rdIsN, isNon, rdEqG, rdIx, rdSet, rdSl, rdLen, rdInt1, rdInt, rdInt2, rdAppend, startN, wipeD, List.map_cons, List.map_nil, List.length_cons, List.length_nil, Nat.zero_add, Nat.sub_self, Nat.reduceAdd, Nat.reduceSub, List.replicate_succ, List.replicate_zero, List.cons_append, List.nil_append, List.append_nil, List.getElem?_cons_zero, List.getElem?_cons_succ, List.set_cons_zero, List.set_cons_succ, Option.some.injEq, exists_eq_left', DEnds.xd, atI_0, atI_1, atI_2, atI_3, atI_4, atI_5, atI_6, atI_7, ixN_50, ixN_51, ixN_52, ixN_53, ixN_54, ixN_30, ixN_31, ixN_32, put_same, put_put, true_and, and_true]
      try rw [if_neg (fun z => z)]
      refine ⟨s2, is_q hp (iteF ⟨xs, ys, _, rfl, h1, h2, knownL_ints, .inr ⟨zs, rfl, h3, fun S3 hs3 => ?_⟩⟩)⟩
      rw [er]
      simp only [dSeq, dAsg, dRet, dRetN, dIfS, dNext, dDrop, dRaise, dBreak, dCont, dTest, dOp, dVar, dC, dCB, dCons, dNil, dCall, dAndV, dOrV, dNotV, dAndT, dOrT, dNotT, dIf, dTup, dLst, dSl, oSome, oNone, dNeg, gN, gT, gConsD, gNilD, gSubD, dChain, dPar, dAug, dLc, dFor, dBM, isLst, iSeqD, iR1, iR2, iR3, dYes, rdAdd, rdSub, rdMul, rdDiv, rdMod, rdPow, rdIAdd, rdCmp, rdIsN, isNon, rdEqG, rdIx, rdSet, rdSl, rdLen, rdInt1, rdInt, rdInt2, rdAppend, startN, wipeD, List.map_cons, List.map_nil, List.length_cons, List.length_nil, Nat.zero_add, Nat.sub_self, Nat.reduceAdd, Nat.reduceSub, List.replicate_succ, List.replicate_zero, List.cons_append, List.nil_append, List.append_nil, List.getElem?_cons_zero, List.getElem?_cons_succ, List.set_cons_zero, List.set_cons_succ, Option.some.injEq, exists_eq_left', DEnds.xd, atI_0, atI_1, atI_2, atI_3, atI_4, atI_5, atI_6, atI_7, ixN_50, ixN_51, ixN_52, ixN_53, ixN_54, ixN_30, ixN_31, ixN_32, put_same, put_put, true_and, and_true]
      refine ⟨⟨shp_ints _, shp_ints _⟩, ?_⟩
      rw [eqvL_ints]
      exact ⟨.bl (decide (l = ys)), by simp, trivial, h _ (Sub.tr hs1 (Sub.tr hs2 hs3))⟩
theorem shp_two_i (l : List Int) (i : Int) : shp (.tup [.tup (List.map Dv.int l), .int i]) = true := by
  unfold shp SeqAt.shaped
  have h := depth_ints l
  simp [isD, isDL, py, pyL, isDL_ints, PyData.canLay0, PyData.canLayAll0, canLay_ints, PyData.depth, PyData.depthAll]
  omega
theorem eqv_two (l : List Int) (i : Int) : eqvL [.tup (List.map Dv.int l), .int i] [.tup (List.map Dv.int l), .int i] = true := by
  have := eqvL_ints l l
  unfold eqvL at this ⊢
  simp only [pyL, py, PyData.eqvAll, PyData.eqv, this]
  simp
theorem rd__law_is_path (c d : Addr) : Rd (r__law_is_path c d) 4 (sp__law_is_path c d) := by
  rintro ds S Q X ⟨xs, ys, rfl, h1, h2, h⟩
  unfold r__law_is_path
  have s2 : 2 ≤ sizeLine := by rw [sizeLine_eq]; decide
  have l1 := h1.1
  have l2 := h2.1
  have hs1 := h1.sr
  have hs2 := h2.sr
  have hr := res_chg (xs := xs) (ys := ys) (by omega) (by omega)
  have hl := chg_len (xs := xs) (ys := ys) (by omega) (by omega)
  have hself := fun e : xs = ys => (by rw [← e]; exact chg_self (by omega) : (chgF xs ys).length ≤ 11)
  have hz : sr (chgF xs ys) := ⟨by omega, chg_by (by omega) hs2⟩
  refine cut_seq (fun ρ T => T = S ∧ ρ = [some (.tup (List.map Dv.int xs)), some (.tup (List.map Dv.int ys)), some (.tup (List.map Dv.int (chgF xs ys))), none]) (fun N hN => ?_) (fun ρ T hM => ?_)
  · simp only [dSeq, dAsg, dRet, dRetN, dIfS, dNext, dDrop, dRaise, dBreak, dCont, dTest, dOp, dVar, dC, dCB, dCons, dNil, dCall, dAndV, dOrV, dNotV, dAndT, dOrT, dNotT, dIf, dTup, dLst, dSl, oSome, oNone, dNeg, gN, gT, gConsD, gNilD, gSubD, dChain, dPar, dAug, dLc, dFor, dBM, isLst, iSeqD, iR1, iR2, iR3, dYes, rdAdd, rdSub, rdMul, rdDiv, rdMod, rdPow, rdIAdd, rdCmp, rdIsN, isNon, rdEqG, rdIx, rdSet, rdSl, rdLen, rdInt1, rdInt, rdInt2, rdAppend, startN, wipeD, List.map_cons, List.map_nil, List.length_cons, List.length_nil, Nat.zero_add, Nat.sub_self, Nat.reduceAdd, Nat.reduceSub, List.replicate_succ, List.replicate_zero, List.cons_append, List.nil_append, List.append_nil, List.getElem?_cons_zero, List.getElem?_cons_succ, List.set_cons_zero, List.set_cons_succ, Option.some.injEq, exists_eq_left', DEnds.xd, atI_0, atI_1, atI_2, atI_3, atI_4, atI_5, atI_6, atI_7, ixN_50, ixN_51, ixN_52, ixN_53, ixN_54, ixN_30, ixN_31, ixN_32, put_same, put_put, true_and, and_true]
    exact ⟨xs, ys, ⟨rfl, hs1, hs2⟩, hN _ _ ⟨rfl, rfl⟩⟩
  obtain ⟨rfl, rfl⟩ := hM
  generalize chgF xs ys = zs at hr hl hself hz
  refine cut_seq (fun ρ U => U = T ∧ ρ = [some (.tup (List.map Dv.int xs)), some (.tup (List.map Dv.int ys)), some (.tup (List.map Dv.int zs)), some (.int ((ys.length : Int) + 11))]) (fun N hN => ?_) (fun ρ U hM => ?_)
  · simp only [dSeq, dAsg, dRet, dRetN, dIfS, dNext, dDrop, dRaise, dBreak, dCont, dTest, dOp, dVar, dC, dCB, dCons, dNil, dCall, dAndV, dOrV, dNotV, dAndT, dOrT, dNotT, dIf, dTup, dLst, dSl, oSome, oNone, dNeg, gN, gT, gConsD, gNilD, gSubD, dChain, dPar, dAug, dLc, dFor, dBM, isLst, iSeqD, iR1, iR2, iR3, dYes, rdAdd, rdSub, rdMul, rdDiv, rdMod, rdPow, rdIAdd, rdCmp, rdIsN, isNon, rdEqG, rdIx, rdSet, rdSl, rdLen, rdInt1, rdInt, rdInt2, rdAppend, startN, wipeD, List.map_cons, List.map_nil, List.length_cons, List.length_nil, Nat.zero_add, Nat.sub_self, Nat.reduceAdd, Nat.reduceSub, List.replicate_succ, List.replicate_zero, List.cons_append, List.nil_append, List.append_nil, List.getElem?_cons_zero, List.getElem?_cons_succ, List.set_cons_zero, List.set_cons_succ, Option.some.injEq, exists_eq_left', DEnds.xd, atI_0, atI_1, atI_2, atI_3, atI_4, atI_5, atI_6, atI_7, ixN_50, ixN_51, ixN_52, ixN_53, ixN_54, ixN_30, ixN_31, ixN_32, put_same, put_put, true_and, and_true]
    rw [List.length_map]
    exact hN _ _ ⟨rfl, rfl⟩
  obtain ⟨rfl, rfl⟩ := hM
  refine cut_seq (fun ρ T => T = U ∧ ∃ k : Int, (zs.length : Int) ≤ k ∧ ρ = [some (.tup (List.map Dv.int xs)), some (.tup (List.map Dv.int ys)), some (.tup (List.map Dv.int zs)), some (.int k)]) (fun N hN => ?_) (fun ρ T hM => ?_)
  · simp only [dSeq, dAsg, dRet, dRetN, dIfS, dNext, dDrop, dRaise, dBreak, dCont, dTest, dOp, dVar, dC, dCB, dCons, dNil, dCall, dAndV, dOrV, dNotV, dAndT, dOrT, dNotT, dIf, dTup, dLst, dSl, oSome, oNone, dNeg, gN, gT, gConsD, gNilD, gSubD, dChain, dPar, dAug, dLc, dFor, dBM, isLst, iSeqD, iR1, iR2, iR3, dYes, rdAdd, rdSub, rdMul, rdDiv, rdMod, rdPow, rdIAdd, rdCmp, rdIsN, isNon, rdEqG, rdIx, rdSet, rdSl, rdLen, rdInt1, rdInt, rdInt2, rdAppend, startN, wipeD, List.map_cons, List.map_nil, List.length_cons, List.length_nil, Nat.zero_add, Nat.sub_self, Nat.reduceAdd, Nat.reduceSub, List.replicate_succ, List.replicate_zero, List.cons_append, List.nil_append, List.append_nil, List.getElem?_cons_zero, List.getElem?_cons_succ, List.set_cons_zero, List.set_cons_succ, Option.some.injEq, exists_eq_left', DEnds.xd, atI_0, atI_1, atI_2, atI_3, atI_4, atI_5, atI_6, atI_7, ixN_50, ixN_51, ixN_52, ixN_53, ixN_54, ixN_30, ixN_31, ixN_32, put_same, put_put, true_and, and_true]
    refine ⟨⟨shp_ints _, shp_ints _⟩, ?_⟩
    rw [eqvL_ints]
    by_cases e : xs = ys
    · rw [if_pos (decide_eq_true e)]
      exact hN _ _ ⟨rfl, _, by have := hself e; omega, rfl⟩
    · rw [if_neg (by rw [decide_eq_false e]; decide)]
      exact hN _ _ ⟨rfl, _, by omega, rfl⟩
  obtain ⟨rfl, k, hk, rfl⟩ := hM
  simp only [dSeq, dAsg, dRet, dRetN, dIfS, dNext, dDrop, dRaise, dBreak, dCont, dTest, dOp, dVar, dC, dCB, dCons, dNil, dCall, dAndV, dOrV, dNotV, dAndT, dOrT, dNotT, dIf, dTup, dLst, dSl, oSome, oNone, dNeg, gN, gT, gConsD, gNilD, gSubD, dChain, dPar, dAug, dLc, dFor, dBM, isLst, iSeqD, iR1, iR2, iR3, dYes, rdAdd, rdSub, rdMul, rdDiv, rdMod, rdPow, rdIAdd, rdCmp, rdIsN, isNon, rdEqG, rdIx, rdSet, rdSl, rdLen, rdInt1, rdInt, rdInt2, rdAppend, startN, wipeD, List.map_cons, List.map_nil, List.length_cons, List.length_nil, Nat.zero_add, Nat.sub_self, Nat.reduceAdd, Nat.reduceSub, List.replicate_succ, List.replicate_zero, List.cons_append, List.nil_append, List.append_nil, List.getElem?_cons_zero, List.getElem?_cons_succ, List.set_cons_zero, List.set_cons_succ, Option.some.injEq, exists_eq_left', DEnds.xd, atI_0, atI_1, atI_2, atI_3, atI_4, atI_5, atI_6, atI_7, ixN_50, ixN_51, ixN_52, ixN_53, ixN_54, ixN_30, ixN_31, ixN_32, put_same, put_put, true_and, and_true]
  refine isi_tuple ⟨_, rfl⟩ ?_
  refine iteF ?_
  rw [List.length_map, if_neg (by rw [decide_eq_false (by omega)]; decide)]
  refine ⟨xs, ys, _, rfl, hs1, hs2, knownL_ints, .inr ⟨zs, rfl, hz, fun S3 hs3 => ?_⟩⟩
  rw [hr]
  refine ⟨.bl true, by simp, trivial, ?_⟩
  refine iteF ⟨xs, zs, ⟨rfl, hs1, hz⟩, fun S4 hs4 => ?_⟩
  cases er : res xs zs with
  | mk r p =>
    rw [er] at hr
    dsimp only at hr
    subst hr
    refine ⟨s2, ?_⟩
    refine ⟨⟨shp_two_i ys (-1), shp_two_i ys (-1)⟩, ?_⟩
    rw [eqv_two]
    refine ⟨xs, zs, ⟨rfl, hs1, hz⟩, ?_⟩
    rw [er]
    exact fun S5 hs5 => is_q (plain_ints (by omega) 2) (h _ (Sub.tr (Sub.tr hs3 hs4) hs5))
end Lw

namespace Lw
open PySem PySem.Spec PyProof.Rows L2 VD
abbrev By (ns : List Int) : Prop := ∀ n ∈ ns, 0 ≤ n ∧ n < 256
theorem By.app {xs ys : List Int} (h1 : By xs) (h2 : By ys) : By (xs ++ ys) := fun n hn => (List.mem_append.mp hn).elim (h1 n) (h2 n)
theorem By.take {xs : List Int} {k : Nat} (h : By xs) : By (xs.take k) := fun n hn => h n (List.mem_of_mem_take hn)
theorem By.drop {xs : List Int} {k : Nat} (h : By xs) : By (xs.drop k) := fun n hn => h n (List.mem_of_mem_drop hn)
theorem By.one {n : Int} (h : 0 ≤ n ∧ n < 256) : By [n] := fun m hm => by rw [List.mem_singleton.mp hm]; exact h
theorem rd__law_spliced : Rd r__law_spliced 5 sp__law_spliced := by
  rintro ds S Q X ⟨a, c, xs, rfl, hH, hx, h⟩
  unfold r__law_spliced
  refine cut_seq (fun ρ T => Hd a c S T ∧ ∃ (ys : List Int) (y2 y3 y4 : Option Dv), okR 300 ys ∧ ρ = [some (.ref a), some (.tup (List.map Dv.int ys)), y2, y3, y4]) (fun N hN => ?_) (fun ρ T hM => ?_)
  · unfold dFor
    simp only [dIfS, dTest, dOp, dVar, dC, dCB, dCons, dNil, dCall, dAndV, dOrV, dNotV, dAndT, dOrT, dNotT, dIf, dTup, dLst, dSl, oSome, oNone, dNeg, gN, gT, gConsD, gNilD, gSubD, dChain, dLc, dBM, isLst, iSeqD, iR1, iR2, iR3, dYes, rdAdd, rdSub, rdMul, rdDiv, rdMod, rdPow, rdIAdd, rdCmp, rdIsN, isNon, rdEqG, rdIx_tup, rdIx_rol, rdSet, rdSl, rdLen, rdInt1, rdInt, rdInt2, rdAppend, startN, wipeD, List.map_cons, List.map_nil, List.length_cons, List.length_nil, Nat.zero_add, Nat.sub_self, Nat.reduceAdd, Nat.reduceSub, List.replicate_succ, List.replicate_zero, List.cons_append, List.nil_append, List.append_nil, List.getElem?_cons_zero, List.getElem?_cons_succ, List.set_cons_zero, List.set_cons_succ, Option.some.injEq, exists_eq_left', DEnds.xd, atI_0, atI_1, atI_2, atI_3, atI_4, atI_5, atI_6, atI_7, ixN_50, ixN_51, ixN_52, ixN_53, ixN_54, ixN_30, ixN_31, ixN_32, put_same, put_put, true_and, and_true, rdIsB, isBlV, rdStrI, rdIntS, rdMulS, dDict0, dDict1, decide_true, decide_false, Bool.not_true, Bool.not_false, Bool.false_eq_true, if_true, if_false]
    refine ⟨a, c, _, rfl, hH, by decide, abs10 (n := 20) (by decide) (by decide), fun r T1 ht1 h1 h2 => ?_⟩
    simp only [dIfS, dTest, dOp, dVar, dC, dCB, dCons, dNil, dCall, dAndV, dOrV, dNotV, dAndT, dOrT, dNotT, dIf, dTup, dLst, dSl, oSome, oNone, dNeg, gN, gT, gConsD, gNilD, gSubD, dChain, dLc, dBM, isLst, iSeqD, iR1, iR2, iR3, dYes, rdAdd, rdSub, rdMul, rdDiv, rdMod, rdPow, rdIAdd, rdCmp, rdIsN, isNon, rdEqG, rdIx_tup, rdIx_rol, rdSet, rdSl, rdLen, rdInt1, rdInt, rdInt2, rdAppend, startN, wipeD, List.map_cons, List.map_nil, List.length_cons, List.length_nil, Nat.zero_add, Nat.sub_self, Nat.reduceAdd, Nat.reduceSub, List.replicate_succ, List.replicate_zero, List.cons_append, List.nil_append, List.append_nil, List.getElem?_cons_zero, List.getElem?_cons_succ, List.set_cons_zero, List.set_cons_succ, Option.some.injEq, exists_eq_left', DEnds.xd, atI_0, atI_1, atI_2, atI_3, atI_4, atI_5, atI_6, atI_7, ixN_50, ixN_51, ixN_52, ixN_53, ixN_54, ixN_30, ixN_31, ixN_32, put_same, put_put, true_and, and_true, rdIsB, isBlV, rdStrI, rdIntS, rdMulS, dDict0, dDict1, decide_true, decide_false, Bool.not_true, Bool.not_false, Bool.false_eq_true, if_true, if_false]
    refine ⟨by omega, by omega, ?_⟩
    refine for_go (fun i ρ T => Hd a c S T ∧ ∃ (ys : List Int) (y2 y3 y4 : Option Dv), okR (240 + 6 * i) ys ∧ ρ = [some (.ref a), some (.tup (List.map Dv.int ys)), y2, y3, y4]) ⟨ht1, xs, none, none, none, hx, rfl⟩ (fun _ _ _ _ _ => trivial) (fun i x ρ T hx2 hw => ?_) fun ρ T hw => ?_
    · obtain ⟨ht, ys, y2, y3, y4, hy, rfl⟩ := hw
      obtain ⟨hi, rfl⟩ := rangeL_mem hx2
      have hyl := hy.1
      simp only [dSeq, dAsg, dRet, dRetN, dIfS, dNext, dDrop, dRaise, dBreak, dCont, dTest, dOp, dVar, dC, dCB, dCons, dNil, dCall, dAndV, dOrV, dNotV, dAndT, dOrT, dNotT, dIf, dTup, dLst, dSl, oSome, oNone, dNeg, gN, gT, gConsD, gNilD, gSubD, dChain, dPar, dAug, dLc, dFor, dBM, isLst, iSeqD, iR1, iR2, iR3, dYes, rdAdd, rdSub, rdMul, rdDiv, rdMod, rdPow, rdIAdd, rdCmp, rdIsN, isNon, rdEqG, rdIx_tup, rdIx_rol, rdSet, rdSl, rdLen, rdInt1, rdInt, rdInt2, rdAppend, startN, wipeD, List.map_cons, List.map_nil, List.length_cons, List.length_nil, Nat.zero_add, Nat.sub_self, Nat.reduceAdd, Nat.reduceSub, List.replicate_succ, List.replicate_zero, List.cons_append, List.nil_append, List.append_nil, List.getElem?_cons_zero, List.getElem?_cons_succ, List.set_cons_zero, List.set_cons_succ, Option.some.injEq, exists_eq_left', DEnds.xd, atI_0, atI_1, atI_2, atI_3, atI_4, atI_5, atI_6, atI_7, ixN_50, ixN_51, ixN_52, ixN_53, ixN_54, ixN_30, ixN_31, ixN_32, put_same, put_put, true_and, and_true, rdIsB, isBlV, rdStrI, rdIntS, rdMulS, dDict0, dDict1, dTry, wD, decide_true, decide_false, Bool.not_true, Bool.not_false, Bool.false_eq_true, if_true, if_false]
      rw [List.length_map]
      refine ⟨a, c, _, rfl, ht.h, by omega, abs10 (n := 20) (by omega) (by omega), fun b T2 ht2 hb1 hb2 => ?_⟩
      simp only [dSeq, dAsg, dRet, dRetN, dIfS, dNext, dDrop, dRaise, dBreak, dCont, dTest, dOp, dVar, dC, dCB, dCons, dNil, dCall, dAndV, dOrV, dNotV, dAndT, dOrT, dNotT, dIf, dTup, dLst, dSl, oSome, oNone, dNeg, gN, gT, gConsD, gNilD, gSubD, dChain, dPar, dAug, dLc, dFor, dBM, isLst, iSeqD, iR1, iR2, iR3, dYes, rdAdd, rdSub, rdMul, rdDiv, rdMod, rdPow, rdIAdd, rdCmp, rdIsN, isNon, rdEqG, rdIx_tup, rdIx_rol, rdSet, rdSl, rdLen, rdInt1, rdInt, rdInt2, rdAppend, startN, wipeD, List.map_cons, List.map_nil, List.length_cons, List.length_nil, Nat.zero_add, Nat.sub_self, Nat.reduceAdd, Nat.reduceSub, List.replicate_succ, List.replicate_zero, List.cons_append, List.nil_append, List.append_nil, List.getElem?_cons_zero, List.getElem?_cons_succ, List.set_cons_zero, List.set_cons_succ, Option.some.injEq, exists_eq_left', DEnds.xd, atI_0, atI_1, atI_2, atI_3, atI_4, atI_5, atI_6, atI_7, ixN_50, ixN_51, ixN_52, ixN_53, ixN_54, ixN_30, ixN_31, ixN_32, put_same, put_put, true_and, and_true, rdIsB, isBlV, rdStrI, rdIntS, rdMulS, dDict0, dDict1, dTry, wD, decide_true, decide_false, Bool.not_true, Bool.not_false, Bool.false_eq_true, if_true, if_false]
      try rw [List.length_map]
      generalize hm : (if (ys.length : Int) - b < 20 then (ys.length : Int) - b else 20) = m
      have hm1 : 0 ≤ m ∧ m ≤ ys.length - b := by
        rw [← hm]
        split <;> omega
      refine ⟨a, c, _, rfl, ht2.h, by omega, abs10 (n := 20) (by omega) (by omega), fun e T3 ht3 he1 he2 => ?_⟩
      simp only [dSeq, dAsg, dRet, dRetN, dIfS, dNext, dDrop, dRaise, dBreak, dCont, dTest, dOp, dVar, dC, dCB, dCons, dNil, dCall, dAndV, dOrV, dNotV, dAndT, dOrT, dNotT, dIf, dTup, dLst, dSl, oSome, oNone, dNeg, gN, gT, gConsD, gNilD, gSubD, dChain, dPar, dAug, dLc, dFor, dBM, isLst, iSeqD, iR1, iR2, iR3, dYes, rdAdd, rdSub, rdMul, rdDiv, rdMod, rdPow, rdIAdd, rdCmp, rdIsN, isNon, rdEqG, rdIx_tup, rdIx_rol, rdSet, rdSl, rdLen, rdInt1, rdInt, rdInt2, rdAppend, startN, wipeD, List.map_cons, List.map_nil, List.length_cons, List.length_nil, Nat.zero_add, Nat.sub_self, Nat.reduceAdd, Nat.reduceSub, List.replicate_succ, List.replicate_zero, List.cons_append, List.nil_append, List.append_nil, List.getElem?_cons_zero, List.getElem?_cons_succ, List.set_cons_zero, List.set_cons_succ, Option.some.injEq, exists_eq_left', DEnds.xd, atI_0, atI_1, atI_2, atI_3, atI_4, atI_5, atI_6, atI_7, ixN_50, ixN_51, ixN_52, ixN_53, ixN_54, ixN_30, ixN_31, ixN_32, put_same, put_put, true_and, and_true, rdIsB, isBlV, rdStrI, rdIntS, rdMulS, dDict0, dDict1, dTry, wD, decide_true, decide_false, Bool.not_true, Bool.not_false, Bool.false_eq_true, if_true, if_false]
      refine ⟨a, c, _, rfl, ht3.h, by decide, by decide, fun ns T4 ht4 hns hnl => ?_⟩
      simp only [dSeq, dAsg, dRet, dRetN, dIfS, dNext, dDrop, dRaise, dBreak, dCont, dTest, dOp, dVar, dC, dCB, dCons, dNil, dCall, dAndV, dOrV, dNotV, dAndT, dOrT, dNotT, dIf, dTup, dLst, dSl, oSome, oNone, dNeg, gN, gT, gConsD, gNilD, gSubD, dChain, dPar, dAug, dLc, dFor, dBM, isLst, iSeqD, iR1, iR2, iR3, dYes, rdAdd, rdSub, rdMul, rdDiv, rdMod, rdPow, rdIAdd, rdCmp, rdIsN, isNon, rdEqG, rdIx_tup, rdIx_rol, rdSet, rdSl, rdLen, rdInt1, rdInt, rdInt2, rdAppend, startN, wipeD, List.map_cons, List.map_nil, List.length_cons, List.length_nil, Nat.zero_add, Nat.sub_self, Nat.reduceAdd, Nat.reduceSub, List.replicate_succ, List.replicate_zero, List.cons_append, List.nil_append, List.append_nil, List.getElem?_cons_zero, List.getElem?_cons_succ, List.set_cons_zero, List.set_cons_succ, Option.some.injEq, exists_eq_left', DEnds.xd, atI_0, atI_1, atI_2, atI_3, atI_4, atI_5, atI_6, atI_7, ixN_50, ixN_51, ixN_52, ixN_53, ixN_54, ixN_30, ixN_31, ixN_32, put_same, put_put, true_and, and_true, rdIsB, isBlV, rdStrI, rdIntS, rdMulS, dDict0, dDict1, dTry, wD, decide_true, decide_false, Bool.not_true, Bool.not_false, Bool.false_eq_true, if_true, if_false]
      rw [cut_take (by omega), cut_drop (by omega), ← List.map_take, ← List.map_drop]
      simp only [← List.map_append]
      refine ⟨?_, ?_, ((ht.trans ht2).trans ht3).trans ht4, _, _, _, _, ⟨?_, ?_⟩, rfl⟩
      · simp only [List.length_map, List.length_take]; rw [sizeLine_eq]; omega
      · simp only [List.length_map, List.length_append, List.length_take, List.length_drop]; rw [sizeLine_eq]; omega
      · simp only [List.length_append, List.length_take, List.length_drop]; omega
      · exact ((By.take hy.2).app hns).app (By.drop hy.2)
    · obtain ⟨ht, ys, y2, y3, y4, hy, rfl⟩ := hw
      rw [rangeL_len] at hy
      exact hN _ _ ⟨ht, ys, _, _, _, ⟨by have := hy.1; omega, hy.2⟩, rfl⟩
  obtain ⟨ht, ys, y2, y3, y4, hy, rfl⟩ := hM
  simp only [dSeq, dAsg, dRet, dRetN, dIfS, dNext, dDrop, dRaise, dBreak, dCont, dTest, dOp, dVar, dC, dCB, dCons, dNil, dCall, dAndV, dOrV, dNotV, dAndT, dOrT, dNotT, dIf, dTup, dLst, dSl, oSome, oNone, dNeg, gN, gT, gConsD, gNilD, gSubD, dChain, dPar, dAug, dLc, dFor, dBM, isLst, iSeqD, iR1, iR2, iR3, dYes, rdAdd, rdSub, rdMul, rdDiv, rdMod, rdPow, rdIAdd, rdCmp, rdIsN, isNon, rdEqG, rdIx_tup, rdIx_rol, rdSet, rdSl, rdLen, rdInt1, rdInt, rdInt2, rdAppend, startN, wipeD, List.map_cons, List.map_nil, List.length_cons, List.length_nil, Nat.zero_add, Nat.sub_self, Nat.reduceAdd, Nat.reduceSub, List.replicate_succ, List.replicate_zero, List.cons_append, List.nil_append, List.append_nil, List.getElem?_cons_zero, List.getElem?_cons_succ, List.set_cons_zero, List.set_cons_succ, Option.some.injEq, exists_eq_left', DEnds.xd, atI_0, atI_1, atI_2, atI_3, atI_4, atI_5, atI_6, atI_7, ixN_50, ixN_51, ixN_52, ixN_53, ixN_54, ixN_30, ixN_31, ixN_32, put_same, put_put, true_and, and_true, rdIsB, isBlV, rdStrI, rdIntS, rdMulS, dDict0, dDict1, dTry, wD, decide_true, decide_false, Bool.not_true, Bool.not_false, Bool.false_eq_true, if_true, if_false]
  exact h _ _ ht hy
theorem rd__law_spoilt : Rd r__law_spoilt 4 sp__law_spoilt := by
  rintro ds S Q X ⟨a, c, xs, rfl, hH, hx, h⟩
  unfold r__law_spoilt
  have hxl := hx.1
  refine cut_seq (fun ρ T => Hd a c S T ∧ ∃ k, ρ = [some (.ref a), some (.tup (List.map Dv.int xs)), some (.int k), none]) (fun N hN => ?_) (fun ρ T hM => ?_)
  · simp only [dSeq, dAsg, dRet, dRetN, dIfS, dNext, dDrop, dRaise, dBreak, dCont, dTest, dOp, dVar, dC, dCB, dCons, dNil, dCall, dAndV, dOrV, dNotV, dAndT, dOrT, dNotT, dIf, dTup, dLst, dSl, oSome, oNone, dNeg, gN, gT, gConsD, gNilD, gSubD, dChain, dPar, dAug, dLc, dFor, dBM, isLst, iSeqD, iR1, iR2, iR3, dYes, rdAdd, rdSub, rdMul, rdDiv, rdMod, rdPow, rdIAdd, rdCmp, rdIsN, isNon, rdEqG, rdIx_tup, rdIx_rol, rdSet, rdSl, rdLen, rdInt1, rdInt, rdInt2, rdAppend, startN, wipeD, List.map_cons, List.map_nil, List.length_cons, List.length_nil, Nat.zero_add, Nat.sub_self, Nat.reduceAdd, Nat.reduceSub, List.replicate_succ, List.replicate_zero, List.cons_append, List.nil_append, List.append_nil, List.getElem?_cons_zero, List.getElem?_cons_succ, List.set_cons_zero, List.set_cons_succ, Option.some.injEq, exists_eq_left', DEnds.xd, atI_0, atI_1, atI_2, atI_3, atI_4, atI_5, atI_6, atI_7, ixN_50, ixN_51, ixN_52, ixN_53, ixN_54, ixN_30, ixN_31, ixN_32, put_same, put_put, true_and, and_true, rdIsB, isBlV, rdStrI, rdIntS, rdMulS, dDict0, dDict1, dTry, wD, decide_true, decide_false, Bool.not_true, Bool.not_false, Bool.false_eq_true, if_true, if_false]
    exact ⟨a, c, _, rfl, hH, by decide, abs10 (n := 20) (by decide) (by decide), fun r T1 ht1 h1 h2 => hN _ _ ⟨ht1, r, rfl⟩⟩
  obtain ⟨ht, k, rfl⟩ := hM
  refine cut_seq (fun ρ T => Hd a c S T ∧ ∃ b : Nat, b ≤ xs.length ∧ ρ = [some (.ref a), some (.tup (List.map Dv.int xs)), some (.int k), some (.int (b : Int))]) (fun N hN => ?_) (fun ρ T hM => ?_)
  · simp only [dSeq, dAsg, dRet, dRetN, dIfS, dNext, dDrop, dRaise, dBreak, dCont, dTest, dOp, dVar, dC, dCB, dCons, dNil, dCall, dAndV, dOrV, dNotV, dAndT, dOrT, dNotT, dIf, dTup, dLst, dSl, oSome, oNone, dNeg, gN, gT, gConsD, gNilD, gSubD, dChain, dPar, dAug, dLc, dFor, dBM, isLst, iSeqD, iR1, iR2, iR3, dYes, rdAdd, rdSub, rdMul, rdDiv, rdMod, rdPow, rdIAdd, rdCmp, rdIsN, isNon, rdEqG, rdIx_tup, rdIx_rol, rdSet, rdSl, rdLen, rdInt1, rdInt, rdInt2, rdAppend, startN, wipeD, List.map_cons, List.map_nil, List.length_cons, List.length_nil, Nat.zero_add, Nat.sub_self, Nat.reduceAdd, Nat.reduceSub, List.replicate_succ, List.replicate_zero, List.cons_append, List.nil_append, List.append_nil, List.getElem?_cons_zero, List.getElem?_cons_succ, List.set_cons_zero, List.set_cons_succ, Option.some.injEq, exists_eq_left', DEnds.xd, atI_0, atI_1, atI_2, atI_3, atI_4, atI_5, atI_6, atI_7, ixN_50, ixN_51, ixN_52, ixN_53, ixN_54, ixN_30, ixN_31, ixN_32, put_same, put_put, true_and, and_true, rdIsB, isBlV, rdStrI, rdIntS, rdMulS, dDict0, dDict1, dTry, wD, decide_true, decide_false, Bool.not_true, Bool.not_false, Bool.false_eq_true, if_true, if_false]
    rw [List.length_map]
    refine ⟨a, c, _, rfl, ht.h, by omega, abs10 (n := 20) (by omega) (by omega), fun r T1 ht1 h1 h2 => hN _ _ ⟨ht.trans ht1, r.toNat, by omega, by rw [Int.toNat_of_nonneg h1]⟩⟩
  clear ht
  obtain ⟨ht, b, hb, rfl⟩ := hM
  have e1 : VD.cutD (List.map Dv.int xs) none (some (b : Int)) = List.map Dv.int (xs.take b) := by rw [cut_take (by omega), ← List.map_take, Int.toNat_natCast]
  have e2 : VD.cutD (List.map Dv.int xs) (some (b : Int)) none = List.map Dv.int (xs.drop b) := by rw [cut_drop (by omega), ← List.map_drop, Int.toNat_natCast]
  have e3 : VD.cutD (List.map Dv.int xs) (some ((b : Int) + 1)) none = List.map Dv.int (xs.drop (b + 1)) := by rw [cut_drop (by omega), ← List.map_drop]; rfl
  have sz : ∀ as bs : List Int, as.length ≤ 2000 → bs.length ≤ 2000 → (List.map Dv.int as).length + (List.map Dv.int bs).length ≤ sizeLine := fun as bs h1 h2 => by
    rw [sizeLine_eq, List.length_map, List.length_map]
    omega
  have lt : (xs.take b).length ≤ xs.length := by rw [List.length_take]; omega
  have l1 : (xs.drop b).length ≤ xs.length := by rw [List.length_drop]; omega
  have l2 : (xs.drop (b + 1)).length ≤ xs.length := by rw [List.length_drop]; omega
  have lb : (xs.take b).length + (xs.drop b).length ≤ xs.length ∧ (xs.take b).length + (xs.drop (b + 1)).length ≤ xs.length := by
    simp only [List.length_take, List.length_drop]
    omega
  have one : ∀ r : Int, [Dv.int r] = List.map Dv.int [r] := fun _ => rfl
  simp only [dSeq, dAsg, dRet, dRetN, dIfS, dNext, dDrop, dRaise, dBreak, dCont, dTest, dOp, dVar, dC, dCB, dCons, dNil, dCall, dAndV, dOrV, dNotV, dAndT, dOrT, dNotT, dIf, dTup, dLst, dSl, oSome, oNone, dNeg, gN, gT, gConsD, gNilD, gSubD, dChain, dPar, dAug, dLc, dFor, dBM, isLst, iSeqD, iR1, iR2, iR3, dYes, rdAdd, rdSub, rdMul, rdDiv, rdMod, rdPow, rdIAdd, rdCmp, rdIsN, isNon, rdEqG, rdIx_tup, rdIx_rol, rdSet, rdSl, rdLen, rdInt1, rdInt, rdInt2, rdAppend, startN, wipeD, List.map_cons, List.map_nil, List.length_cons, List.length_nil, Nat.zero_add, Nat.sub_self, Nat.reduceAdd, Nat.reduceSub, List.replicate_succ, List.replicate_zero, List.cons_append, List.nil_append, List.append_nil, List.getElem?_cons_zero, List.getElem?_cons_succ, List.set_cons_zero, List.set_cons_succ, Option.some.injEq, exists_eq_left', DEnds.xd, atI_0, atI_1, atI_2, atI_3, atI_4, atI_5, atI_6, atI_7, ixN_50, ixN_51, ixN_52, ixN_53, ixN_54, ixN_30, ixN_31, ixN_32, put_same, put_put, true_and, and_true, rdIsB, isBlV, rdStrI, rdIntS, rdMulS, dDict0, dDict1, dTry, wD, decide_true, decide_false, Bool.not_true, Bool.not_false, Bool.false_eq_true, if_true, if_false]
  rw [e1, e2, e3]
  split
  · refine ⟨a, c, rfl, ht.h, fun r T1 ht1 h1 h2 => ?_⟩
    simp only [dSeq, dAsg, dRet, dRetN, dIfS, dNext, dDrop, dRaise, dBreak, dCont, dTest, dOp, dVar, dC, dCB, dCons, dNil, dCall, dAndV, dOrV, dNotV, dAndT, dOrT, dNotT, dIf, dTup, dLst, dSl, oSome, oNone, dNeg, gN, gT, gConsD, gNilD, gSubD, dChain, dPar, dAug, dLc, dFor, dBM, isLst, iSeqD, iR1, iR2, iR3, dYes, rdAdd, rdSub, rdMul, rdDiv, rdMod, rdPow, rdIAdd, rdCmp, rdIsN, isNon, rdEqG, rdIx_tup, rdIx_rol, rdSet, rdSl, rdLen, rdInt1, rdInt, rdInt2, rdAppend, startN, wipeD, List.map_cons, List.map_nil, List.length_cons, List.length_nil, Nat.zero_add, Nat.sub_self, Nat.reduceAdd, Nat.reduceSub, List.replicate_succ, List.replicate_zero, List.cons_append, List.nil_append, List.append_nil, List.getElem?_cons_zero, List.getElem?_cons_succ, List.set_cons_zero, List.set_cons_succ, Option.some.injEq, exists_eq_left', DEnds.xd, atI_0, atI_1, atI_2, atI_3, atI_4, atI_5, atI_6, atI_7, ixN_50, ixN_51, ixN_52, ixN_53, ixN_54, ixN_30, ixN_31, ixN_32, put_same, put_put, true_and, and_true, rdIsB, isBlV, rdStrI, rdIntS, rdMulS, dDict0, dDict1, dTry, wD, decide_true, decide_false, Bool.not_true, Bool.not_false, Bool.false_eq_true, if_true, if_false]
    rw [one]
    simp only [← List.map_append]
    refine ⟨by decide, sz (xs.take b) [r] (by omega) (by simp), sz (xs.take b ++ [r]) (xs.drop (b + 1)) (by rw [List.length_append]; simp only [List.length_cons, List.length_nil]; omega) (by omega), h _ _ (ht.trans ht1) ⟨?_, ((By.take hx.2).app (By.one ⟨h1, h2⟩)).app (By.drop hx.2)⟩⟩
    simp only [List.length_append, List.length_cons, List.length_nil]
    omega
  split
  · refine ⟨a, c, rfl, ht.h, fun r T1 ht1 h1 h2 => ?_⟩
    simp only [dSeq, dAsg, dRet, dRetN, dIfS, dNext, dDrop, dRaise, dBreak, dCont, dTest, dOp, dVar, dC, dCB, dCons, dNil, dCall, dAndV, dOrV, dNotV, dAndT, dOrT, dNotT, dIf, dTup, dLst, dSl, oSome, oNone, dNeg, gN, gT, gConsD, gNilD, gSubD, dChain, dPar, dAug, dLc, dFor, dBM, isLst, iSeqD, iR1, iR2, iR3, dYes, rdAdd, rdSub, rdMul, rdDiv, rdMod, rdPow, rdIAdd, rdCmp, rdIsN, isNon, rdEqG, rdIx_tup, rdIx_rol, rdSet, rdSl, rdLen, rdInt1, rdInt, rdInt2, rdAppend, startN, wipeD, List.map_cons, List.map_nil, List.length_cons, List.length_nil, Nat.zero_add, Nat.sub_self, Nat.reduceAdd, Nat.reduceSub, List.replicate_succ, List.replicate_zero, List.cons_append, List.nil_append, List.append_nil, List.getElem?_cons_zero, List.getElem?_cons_succ, List.set_cons_zero, List.set_cons_succ, Option.some.injEq, exists_eq_left', DEnds.xd, atI_0, atI_1, atI_2, atI_3, atI_4, atI_5, atI_6, atI_7, ixN_50, ixN_51, ixN_52, ixN_53, ixN_54, ixN_30, ixN_31, ixN_32, put_same, put_put, true_and, and_true, rdIsB, isBlV, rdStrI, rdIntS, rdMulS, dDict0, dDict1, dTry, wD, decide_true, decide_false, Bool.not_true, Bool.not_false, Bool.false_eq_true, if_true, if_false]
    rw [one]
    simp only [← List.map_append]
    refine ⟨by decide, sz (xs.take b) [r] (by omega) (by simp), sz (xs.take b ++ [r]) (xs.drop b) (by rw [List.length_append]; simp only [List.length_cons, List.length_nil]; omega) (by omega), h _ _ (ht.trans ht1) ⟨?_, ((By.take hx.2).app (By.one ⟨h1, h2⟩)).app (By.drop hx.2)⟩⟩
    simp only [List.length_append, List.length_cons, List.length_nil]
    omega
  split
  · rw [← List.map_append]
    exact ⟨sz (xs.take b) (xs.drop (b + 1)) (by omega) (by omega), h _ _ ht ⟨by rw [List.length_append]; omega, (By.take hx.2).app (By.drop hx.2)⟩⟩
  split
  · exact h _ _ ht ⟨by omega, By.take hx.2⟩
  · refine ⟨a, c, _, rfl, ht.h, by decide, by decide, fun ns T1 ht1 hns hnl => ?_⟩
    simp only [dSeq, dAsg, dRet, dRetN, dIfS, dNext, dDrop, dRaise, dBreak, dCont, dTest, dOp, dVar, dC, dCB, dCons, dNil, dCall, dAndV, dOrV, dNotV, dAndT, dOrT, dNotT, dIf, dTup, dLst, dSl, oSome, oNone, dNeg, gN, gT, gConsD, gNilD, gSubD, dChain, dPar, dAug, dLc, dFor, dBM, isLst, iSeqD, iR1, iR2, iR3, dYes, rdAdd, rdSub, rdMul, rdDiv, rdMod, rdPow, rdIAdd, rdCmp, rdIsN, isNon, rdEqG, rdIx_tup, rdIx_rol, rdSet, rdSl, rdLen, rdInt1, rdInt, rdInt2, rdAppend, startN, wipeD, List.map_cons, List.map_nil, List.length_cons, List.length_nil, Nat.zero_add, Nat.sub_self, Nat.reduceAdd, Nat.reduceSub, List.replicate_succ, List.replicate_zero, List.cons_append, List.nil_append, List.append_nil, List.getElem?_cons_zero, List.getElem?_cons_succ, List.set_cons_zero, List.set_cons_succ, Option.some.injEq, exists_eq_left', DEnds.xd, atI_0, atI_1, atI_2, atI_3, atI_4, atI_5, atI_6, atI_7, ixN_50, ixN_51, ixN_52, ixN_53, ixN_54, ixN_30, ixN_31, ixN_32, put_same, put_put, true_and, and_true, rdIsB, isBlV, rdStrI, rdIntS, rdMulS, dDict0, dDict1, dTry, wD, decide_true, decide_false, Bool.not_true, Bool.not_false, Bool.false_eq_true, if_true, if_false]
    rw [← List.map_append]
    exact ⟨sz xs ns (by omega) (by omega), h _ _ (ht.trans ht1) ⟨by rw [List.length_append]; omega, By.app hx.2 hns⟩⟩
end Lw

namespace Lw
open PySem PySem.Spec PyProof.Rows L2 VD
theorem rd__law_become : Rd r__law_become 9 sp__law_become := by
  rintro ds S Q X ⟨one, ch, ⟨rfl, h1, h2⟩, h⟩
  unfold r__law_become
  have l1 := h1.1
  have l2 := h2.1
  have s2 : 2 ≤ sizeLine := by rw [sizeLine_eq]; decide
  unfold dFor
  simp only [dSeq, dAsg, dRet, dRetN, dIfS, dNext, dDrop, dRaise, dBreak, dCont, dTest, dOp, dVar, dC, dCB, dCons, dNil, dCall, dAndV, dOrV, dNotV, dAndT, dOrT, dNotT, dIf, dTup, dLst, dSl, oSome, oNone, dNeg, gN, gT, gConsD, gNilD, gSubD, dChain, dPar, dAug, dLc, dFor, dBM, isLst, iSeqD, iR1, iR2, iR3, dYes, rdAdd, rdSub, rdMul, rdDiv, rdMod, rdPow, rdIAdd, rdCmp, rdIsN, isNon, rdEqG, rdIx, rdSet, rdSl, rdLen, rdInt1, rdInt, rdInt2, rdAppend, startN, wipeD, List.map_cons, List.map_nil, List.length_cons, List.length_nil, Nat.zero_add, Nat.sub_self, Nat.reduceAdd, Nat.reduceSub, List.replicate_succ, List.replicate_zero, List.cons_append, List.nil_append, List.append_nil, List.getElem?_cons_zero, List.getElem?_cons_succ, List.set_cons_zero, List.set_cons_succ, Option.some.injEq, exists_eq_left', DEnds.xd, atI_0, atI_1, atI_2, atI_3, atI_4, atI_5, atI_6, atI_7, ixN_50, ixN_51, ixN_52, ixN_53, ixN_54, ixN_30, ixN_31, ixN_32, put_same, put_put, true_and, and_true]
  refine ⟨by rw [sizeLine_eq]; decide, fun p hp => ?_⟩
  rw [List.length_map]
  refine ⟨by omega, by omega, ?_⟩
  refine for_go (fun j ρ T => ∃ (fd : List Int) (hr i : Nat) (y5 y6 y7 y8 : Option Dv), T = put S p (.lst (List.map Dv.int fd)) ∧ hr ≤ one.length ∧ i ≤ ch.length ∧ j ≤ i ∧ fd.length ≤ hr + i ∧ resF (ch.length - i + 1) one ch fd hr i = res one ch ∧
    ρ = [some (.tup (List.map Dv.int one)), some (.tup (List.map Dv.int ch)), some (.ref p), some (.int (hr : Int)), some (.int (i : Int)), y5, y6, y7, y8]) ⟨[], 0, 0, none, none, none, none, rfl, by omega, by omega, by omega, by simp, rfl, rfl⟩ (fun _ _ _ _ _ => trivial) (fun j x ρ T hx hw => ?_) fun ρ T hw => ?_
  rotate_left
  · obtain ⟨fd, hr, i, y5, y6, y7, y8, rfl, hhr, hi, hji, _⟩ := hw
    rw [rangeL_len] at hji
    omega
  obtain ⟨fd, hr, i, y5, y6, y7, y8, rfl, hhr, hi, hji, hfl, hres, rfl⟩ := hw
  simp only [dIfS, dTest, dOp, dVar, dC, dCB, dCons, dNil, dCall, dAndV, dOrV, dNotV, dAndT, dOrT, dNotT, dIf, dTup, dLst, dSl, oSome, oNone, dNeg, gN, gT, gConsD, gNilD, gSubD, dChain, dLc, dBM, isLst, iSeqD, iR1, iR2, iR3, dYes, rdAdd, rdSub, rdMul, rdDiv, rdMod, rdPow, rdIAdd, rdCmp, rdIsN, isNon, rdEqG, rdIx, rdSet, rdSl, rdLen, rdInt1, rdInt, rdInt2, rdAppend, startN, wipeD, List.map_cons, List.map_nil, List.length_cons, List.length_nil, Nat.zero_add, Nat.sub_self, Nat.reduceAdd, Nat.reduceSub, List.replicate_succ, List.replicate_zero, List.cons_append, List.nil_append, List.append_nil, List.getElem?_cons_zero, List.getElem?_cons_succ, List.set_cons_zero, List.set_cons_succ, Option.some.injEq, exists_eq_left', DEnds.xd, atI_0, atI_1, atI_2, atI_3, atI_4, atI_5, atI_6, atI_7, ixN_50, ixN_51, ixN_52, ixN_53, ixN_54, ixN_30, ixN_31, ixN_32, put_same, put_put, true_and, and_true]
  refine cut_seq (fun ρ T => T = put S p (.lst (List.map Dv.int fd)) ∧ i < ch.length ∧ ρ = [some (.tup (List.map Dv.int one)), some (.tup (List.map Dv.int ch)), some (.ref p), some (.int (hr : Int)), some (.int (i : Int)), some x, y6, y7, y8]) (fun N hN => ?_) (fun ρ T hM => ?_)
  · simp only [dSeq, dAsg, dRet, dRetN, dIfS, dNext, dDrop, dRaise, dBreak, dCont, dTest, dOp, dVar, dC, dCB, dCons, dNil, dCall, dAndV, dOrV, dNotV, dAndT, dOrT, dNotT, dIf, dTup, dLst, dSl, oSome, oNone, dNeg, gN, gT, gConsD, gNilD, gSubD, dChain, dPar, dAug, dLc, dFor, dBM, isLst, iSeqD, iR1, iR2, iR3, dYes, rdAdd, rdSub, rdMul, rdDiv, rdMod, rdPow, rdIAdd, rdCmp, rdIsN, isNon, rdEqG, rdIx, rdSet, rdSl, rdLen, rdInt1, rdInt, rdInt2, rdAppend, startN, wipeD, List.map_cons, List.map_nil, List.length_cons, List.length_nil, Nat.zero_add, Nat.sub_self, Nat.reduceAdd, Nat.reduceSub, List.replicate_succ, List.replicate_zero, List.cons_append, List.nil_append, List.append_nil, List.getElem?_cons_zero, List.getElem?_cons_succ, List.set_cons_zero, List.set_cons_succ, Option.some.injEq, exists_eq_left', DEnds.xd, atI_0, atI_1, atI_2, atI_3, atI_4, atI_5, atI_6, atI_7, ixN_50, ixN_51, ixN_52, ixN_53, ixN_54, ixN_30, ixN_31, ixN_32, put_same, put_put, true_and, and_true]
    rw [List.length_map]
    by_cases hlt : i < ch.length
    · rw [if_neg (by rw [decide_eq_false (by omega)]; decide)]
      exact hN _ _ ⟨rfl, hlt, rfl⟩
    · rw [if_pos (decide_eq_true (by omega))]
      have hi2 : i = ch.length := by omega
      rw [resF, if_pos hi2] at hres
      rw [← hres] at h
      unfold rdTuple seqOf
      dsimp only
      rw [put_same]
      exact ⟨S, Sub.new hp, s2, h _ (fun _ _ z => z)⟩
  obtain ⟨rfl, hlt, rfl⟩ := hM
  rw [resF, if_neg (by omega)] at hres
  refine cut_seq (fun ρ T => T = put S p (.lst (List.map Dv.int fd)) ∧ ρ = [some (.tup (List.map Dv.int one)), some (.tup (List.map Dv.int ch)), some (.ref p), some (.int (hr : Int)), some (.int (i : Int)), some x, some (readF ch i), y7, y8]) (fun N hN => ?_) (fun ρ T hM => ?_)
  · simp only [dSeq, dAsg, dRet, dRetN, dIfS, dNext, dDrop, dRaise, dBreak, dCont, dTest, dOp, dVar, dC, dCB, dCons, dNil, dCall, dAndV, dOrV, dNotV, dAndT, dOrT, dNotT, dIf, dTup, dLst, dSl, oSome, oNone, dNeg, gN, gT, gConsD, gNilD, gSubD, dChain, dPar, dAug, dLc, dFor, dBM, isLst, iSeqD, iR1, iR2, iR3, dYes, rdAdd, rdSub, rdMul, rdDiv, rdMod, rdPow, rdIAdd, rdCmp, rdIsN, isNon, rdEqG, rdIx, rdSet, rdSl, rdLen, rdInt1, rdInt, rdInt2, rdAppend, startN, wipeD, List.map_cons, List.map_nil, List.length_cons, List.length_nil, Nat.zero_add, Nat.sub_self, Nat.reduceAdd, Nat.reduceSub, List.replicate_succ, List.replicate_zero, List.cons_append, List.nil_append, List.append_nil, List.getElem?_cons_zero, List.getElem?_cons_succ, List.set_cons_zero, List.set_cons_succ, Option.some.injEq, exists_eq_left', DEnds.xd, atI_0, atI_1, atI_2, atI_3, atI_4, atI_5, atI_6, atI_7, ixN_50, ixN_51, ixN_52, ixN_53, ixN_54, ixN_30, ixN_31, ixN_32, put_same, put_put, true_and, and_true]
    exact ⟨ch, i, ⟨rfl, h2.ok, by omega⟩, hN _ _ ⟨rfl, rfl⟩⟩
  obtain ⟨rfl, rfl⟩ := hM
  have hS := VD.Sub.new (m := .lst (List.map Dv.int fd)) hp
  have hpo : partO ch i = match rdO ch i with
    | none => none
    | some (v, b) => if v / 3 = 0 ∨ (v % 3 = 2 ∧ ch.length < b + v / 3) then none else some (v % 3, v / 3, b) := rfl
  rw [readF_rdO]
  cases e : rdO ch i with
  | none =>
    rw [e] at hpo
    rw [hpo] at hres
    dsimp only at hres
    rw [← hres] at h
    simp only [dSeq, dAsg, dRet, dRetN, dIfS, dNext, dDrop, dRaise, dBreak, dCont, dTest, dOp, dVar, dC, dCB, dCons, dNil, dCall, dAndV, dOrV, dNotV, dAndT, dOrT, dNotT, dIf, dTup, dLst, dSl, oSome, oNone, dNeg, gN, gT, gConsD, gNilD, gSubD, dChain, dPar, dAug, dLc, dFor, dBM, isLst, iSeqD, iR1, iR2, iR3, dYes, rdAdd, rdSub, rdMul, rdDiv, rdMod, rdPow, rdIAdd, rdCmp, rdIsN, isNon, rdEqG, rdIx, rdSet, rdSl, rdLen, rdInt1, rdInt, rdInt2, rdAppend, startN, wipeD, List.map_cons, List.map_nil, List.length_cons, List.length_nil, Nat.zero_add, Nat.sub_self, Nat.reduceAdd, Nat.reduceSub, List.replicate_succ, List.replicate_zero, List.cons_append, List.nil_append, List.append_nil, List.getElem?_cons_zero, List.getElem?_cons_succ, List.set_cons_zero, List.set_cons_succ, Option.some.injEq, exists_eq_left', DEnds.xd, atI_0, atI_1, atI_2, atI_3, atI_4, atI_5, atI_6, atI_7, ixN_50, ixN_51, ixN_52, ixN_53, ixN_54, ixN_30, ixN_31, ixN_32, put_same, put_put, true_and, and_true]
    exact ⟨s2, h _ hS⟩
  | some vb =>
    obtain ⟨v, b⟩ := vb
    rw [e] at hpo
    dsimp only at hpo
    refine cut_seq (fun ρ T => T = put S p (.lst (List.map Dv.int fd)) ∧ v / 3 ≠ 0 ∧ ρ = [some (.tup (List.map Dv.int one)), some (.tup (List.map Dv.int ch)), some (.ref p), some (.int (hr : Int)), some (.int (i : Int)), some x, some (.tup [.int (v : Int), .int (b : Int)]), y7, y8]) (fun N hN => ?_) (fun ρ T hM => ?_)
    · simp only [dSeq, dAsg, dRet, dRetN, dIfS, dNext, dDrop, dRaise, dBreak, dCont, dTest, dOp, dVar, dC, dCB, dCons, dNil, dCall, dAndV, dOrV, dNotV, dAndT, dOrT, dNotT, dIf, dTup, dLst, dSl, oSome, oNone, dNeg, gN, gT, gConsD, gNilD, gSubD, dChain, dPar, dAug, dLc, dFor, dBM, isLst, iSeqD, iR1, iR2, iR3, dYes, rdAdd, rdSub, rdMul, rdDiv, rdMod, rdPow, rdIAdd, rdCmp, rdIsN, isNon, rdEqG, rdIx, rdSet, rdSl, rdLen, rdInt1, rdInt, rdInt2, rdAppend, startN, wipeD, List.map_cons, List.map_nil, List.length_cons, List.length_nil, Nat.zero_add, Nat.sub_self, Nat.reduceAdd, Nat.reduceSub, List.replicate_succ, List.replicate_zero, List.cons_append, List.nil_append, List.append_nil, List.getElem?_cons_zero, List.getElem?_cons_succ, List.set_cons_zero, List.set_cons_succ, Option.some.injEq, exists_eq_left', DEnds.xd, atI_0, atI_1, atI_2, atI_3, atI_4, atI_5, atI_6, atI_7, ixN_50, ixN_51, ixN_52, ixN_53, ixN_54, ixN_30, ixN_31, ixN_32, put_same, put_put, true_and, and_true]
      refine iteF ?_
      by_cases h3 : v / 3 = 0
      · rw [if_pos (decide_eq_true (by omega))]
        rw [if_pos (.inl h3)] at hpo
        rw [hpo] at hres
        dsimp only at hres
        rw [← hres] at h
        exact ⟨s2, h _ hS⟩
      · rw [if_neg (by rw [decide_eq_false (by omega)]; decide)]
        exact hN _ _ ⟨rfl, h3, rfl⟩
    obtain ⟨rfl, h3, rfl⟩ := hM
    refine cut_seq (fun ρ T => T = put S p (.lst (List.map Dv.int fd)) ∧ ρ = [some (.tup (List.map Dv.int one)), some (.tup (List.map Dv.int ch)), some (.ref p), some (.int (hr : Int)), some (.int (i : Int)), some x, some (.tup [.int (v : Int), .int (b : Int)]), some (.int ((v / 3 : Nat) : Int)), y8]) (fun N hN => ?_) (fun ρ T hM => ?_)
    · simp only [dSeq, dAsg, dRet, dRetN, dIfS, dNext, dDrop, dRaise, dBreak, dCont, dTest, dOp, dVar, dC, dCB, dCons, dNil, dCall, dAndV, dOrV, dNotV, dAndT, dOrT, dNotT, dIf, dTup, dLst, dSl, oSome, oNone, dNeg, gN, gT, gConsD, gNilD, gSubD, dChain, dPar, dAug, dLc, dFor, dBM, isLst, iSeqD, iR1, iR2, iR3, dYes, rdAdd, rdSub, rdMul, rdDiv, rdMod, rdPow, rdIAdd, rdCmp, rdIsN, isNon, rdEqG, rdIx, rdSet, rdSl, rdLen, rdInt1, rdInt, rdInt2, rdAppend, startN, wipeD, List.map_cons, List.map_nil, List.length_cons, List.length_nil, Nat.zero_add, Nat.sub_self, Nat.reduceAdd, Nat.reduceSub, List.replicate_succ, List.replicate_zero, List.cons_append, List.nil_append, List.append_nil, List.getElem?_cons_zero, List.getElem?_cons_succ, List.set_cons_zero, List.set_cons_succ, Option.some.injEq, exists_eq_left', DEnds.xd, atI_0, atI_1, atI_2, atI_3, atI_4, atI_5, atI_6, atI_7, ixN_50, ixN_51, ixN_52, ixN_53, ixN_54, ixN_30, ixN_31, ixN_32, put_same, put_put, true_and, and_true]
      exact ⟨divp 64 (by decide) (by decide), hN _ _ ⟨rfl, rfl⟩⟩
    obtain ⟨rfl, rfl⟩ := hM
    refine cut_seq (fun ρ T => T = put S p (.lst (List.map Dv.int fd)) ∧ ρ = [some (.tup (List.map Dv.int one)), some (.tup (List.map Dv.int ch)), some (.ref p), some (.int (hr : Int)), some (.int (i : Int)), some x, some (.tup [.int (v : Int), .int (b : Int)]), some (.int ((v / 3 : Nat) : Int)), some (.int ((v % 3 : Nat) : Int))]) (fun N hN => ?_) (fun ρ T hM => ?_)
    · simp only [dSeq, dAsg, dRet, dRetN, dIfS, dNext, dDrop, dRaise, dBreak, dCont, dTest, dOp, dVar, dC, dCB, dCons, dNil, dCall, dAndV, dOrV, dNotV, dAndT, dOrT, dNotT, dIf, dTup, dLst, dSl, oSome, oNone, dNeg, gN, gT, gConsD, gNilD, gSubD, dChain, dPar, dAug, dLc, dFor, dBM, isLst, iSeqD, iR1, iR2, iR3, dYes, rdAdd, rdSub, rdMul, rdDiv, rdMod, rdPow, rdIAdd, rdCmp, rdIsN, isNon, rdEqG, rdIx, rdSet, rdSl, rdLen, rdInt1, rdInt, rdInt2, rdAppend, startN, wipeD, List.map_cons, List.map_nil, List.length_cons, List.length_nil, Nat.zero_add, Nat.sub_self, Nat.reduceAdd, Nat.reduceSub, List.replicate_succ, List.replicate_zero, List.cons_append, List.nil_append, List.append_nil, List.getElem?_cons_zero, List.getElem?_cons_succ, List.set_cons_zero, List.set_cons_succ, Option.some.injEq, exists_eq_left', DEnds.xd, atI_0, atI_1, atI_2, atI_3, atI_4, atI_5, atI_6, atI_7, ixN_50, ixN_51, ixN_52, ixN_53, ixN_54, ixN_30, ixN_31, ixN_32, put_same, put_put, true_and, and_true]
      exact ⟨by decide, hN _ _ ⟨rfl, rfl⟩⟩
    obtain ⟨rfl, rfl⟩ := hM
    have hbe := rdO_behind e
    have hk3 : v % 3 < 3 := Nat.mod_lt _ (by decide)
    generalize v / 3 = many at *
    generalize v % 3 = kind at *
    have bk : ((kind : Int) = 2) ↔ kind = 2 := by omega
    have b0 : ((kind : Int) = 0) ↔ kind = 0 := by omega
    by_cases h8 : kind = 2
    · simp only [dSeq, dAsg, dRet, dRetN, dIfS, dNext, dDrop, dRaise, dBreak, dCont, dTest, dOp, dVar, dC, dCB, dCons, dNil, dCall, dAndV, dOrV, dNotV, dAndT, dOrT, dNotT, dIf, dTup, dLst, dSl, oSome, oNone, dNeg, gN, gT, gConsD, gNilD, gSubD, dChain, dPar, dAug, dLc, dFor, dBM, isLst, iSeqD, iR1, iR2, iR3, dYes, rdAdd, rdSub, rdMul, rdDiv, rdMod, rdPow, rdIAdd, rdCmp, rdIsN, isNon, rdEqG, rdIx, rdSet, rdSl, rdLen, rdInt1, rdInt, rdInt2, rdAppend, startN, wipeD, List.map_cons, List.map_nil, List.length_cons, List.length_nil, Nat.zero_add, Nat.sub_self, Nat.reduceAdd, Nat.reduceSub, List.replicate_succ, List.replicate_zero, List.cons_append, List.nil_append, List.append_nil, List.getElem?_cons_zero, List.getElem?_cons_succ, List.set_cons_zero, List.set_cons_succ, Option.some.injEq, exists_eq_left', DEnds.xd, atI_0, atI_1, atI_2, atI_3, atI_4, atI_5, atI_6, atI_7, ixN_50, ixN_51, ixN_52, ixN_53, ixN_54, ixN_30, ixN_31, ixN_32, put_same, put_put, true_and, and_true]
      rw [if_pos (decide_eq_true (bk.mpr h8)), List.length_map]
      by_cases h9 : ch.length < b + many
      · rw [if_pos (decide_eq_true (by omega))]
        rw [if_pos (.inr ⟨h8, h9⟩)] at hpo
        rw [hpo] at hres
        dsimp only at hres
        rw [← hres] at h
        exact ⟨s2, h _ hS⟩
      · rw [if_neg (by rw [decide_eq_false (by omega)]; decide)]
        rw [if_neg (fun z => z.elim h3 fun y => h9 y.2)] at hpo
        rw [hpo] at hres
        dsimp only at hres
        rw [if_pos h8] at hres
        rw [cut_mid (by omega) (by omega) (by rw [List.length_map]; omega), ← List.map_drop, ← List.map_take]
        unfold rdExtend
        dsimp only
        rw [put_same]
        dsimp only
        refine ⟨by rw [sizeLine_eq, List.length_map, List.length_map, List.length_take]; omega, ?_⟩
        rw [put_put, ← List.map_append, show ((b : Int) + (many : Int)).toNat - (b : Int).toNat = many by omega, Int.toNat_natCast]
        exact ⟨fd ++ (ch.drop b).take many, hr, b + many, _, _, _, _, rfl, hhr, by omega, by omega, by rw [List.length_append, List.length_take]; omega, by rw [← hres]; exact resF_any (by omega) (by omega) (by omega), rfl⟩
    · rw [if_neg (fun z => z.elim h3 fun y => h8 y.1)] at hpo
      rw [hpo] at hres
      dsimp only at hres
      rw [if_neg h8] at hres
      simp only [dIfS, dTest, dOp, dVar, dC, dCB, dCons, dNil, dCall, dAndV, dOrV, dNotV, dAndT, dOrT, dNotT, dIf, dTup, dLst, dSl, oSome, oNone, dNeg, gN, gT, gConsD, gNilD, gSubD, dChain, dLc, dBM, isLst, iSeqD, iR1, iR2, iR3, dYes, rdAdd, rdSub, rdMul, rdDiv, rdMod, rdPow, rdIAdd, rdCmp, rdIsN, isNon, rdEqG, rdIx, rdSet, rdSl, rdLen, rdInt1, rdInt, rdInt2, rdAppend, startN, wipeD, List.map_cons, List.map_nil, List.length_cons, List.length_nil, Nat.zero_add, Nat.sub_self, Nat.reduceAdd, Nat.reduceSub, List.replicate_succ, List.replicate_zero, List.cons_append, List.nil_append, List.append_nil, List.getElem?_cons_zero, List.getElem?_cons_succ, List.set_cons_zero, List.set_cons_succ, Option.some.injEq, exists_eq_left', DEnds.xd, atI_0, atI_1, atI_2, atI_3, atI_4, atI_5, atI_6, atI_7, ixN_50, ixN_51, ixN_52, ixN_53, ixN_54, ixN_30, ixN_31, ixN_32, put_same, put_put, true_and, and_true]
      rw [if_neg (by rw [decide_eq_false (fun z => h8 (bk.mp z))]; decide)]
      refine cut_seq (fun ρ T => T = put S p (.lst (List.map Dv.int fd)) ∧ hr + many ≤ one.length ∧ ρ = [some (.tup (List.map Dv.int one)), some (.tup (List.map Dv.int ch)), some (.ref p), some (.int (hr : Int)), some (.int (i : Int)), some x, some (.tup [.int (v : Int), .int (b : Int)]), some (.int (many : Int)), some (.int (kind : Int))]) (fun N hN => ?_) (fun ρ T hM => ?_)
      · simp only [dSeq, dAsg, dRet, dRetN, dIfS, dNext, dDrop, dRaise, dBreak, dCont, dTest, dOp, dVar, dC, dCB, dCons, dNil, dCall, dAndV, dOrV, dNotV, dAndT, dOrT, dNotT, dIf, dTup, dLst, dSl, oSome, oNone, dNeg, gN, gT, gConsD, gNilD, gSubD, dChain, dPar, dAug, dLc, dFor, dBM, isLst, iSeqD, iR1, iR2, iR3, dYes, rdAdd, rdSub, rdMul, rdDiv, rdMod, rdPow, rdIAdd, rdCmp, rdIsN, isNon, rdEqG, rdIx, rdSet, rdSl, rdLen, rdInt1, rdInt, rdInt2, rdAppend, startN, wipeD, List.map_cons, List.map_nil, List.length_cons, List.length_nil, Nat.zero_add, Nat.sub_self, Nat.reduceAdd, Nat.reduceSub, List.replicate_succ, List.replicate_zero, List.cons_append, List.nil_append, List.append_nil, List.getElem?_cons_zero, List.getElem?_cons_succ, List.set_cons_zero, List.set_cons_succ, Option.some.injEq, exists_eq_left', DEnds.xd, atI_0, atI_1, atI_2, atI_3, atI_4, atI_5, atI_6, atI_7, ixN_50, ixN_51, ixN_52, ixN_53, ixN_54, ixN_30, ixN_31, ixN_32, put_same, put_put, true_and, and_true]
        rw [List.length_map]
        by_cases h7 : one.length < hr + many
        · rw [if_pos (decide_eq_true (by omega))]
          rw [if_pos h7] at hres
          rw [← hres] at h
          exact ⟨s2, h _ hS⟩
        · rw [if_neg (by rw [decide_eq_false (by omega)]; decide)]
          exact hN _ _ ⟨rfl, by omega, rfl⟩
      obtain ⟨rfl, hm, rfl⟩ := hM
      rw [if_neg (by omega)] at hres
      refine cut_seq (fun ρ T => T = put S p (.lst (List.map Dv.int (if kind = 0 then fd ++ (one.drop hr).take many else fd))) ∧ ρ = [some (.tup (List.map Dv.int one)), some (.tup (List.map Dv.int ch)), some (.ref p), some (.int (hr : Int)), some (.int (i : Int)), some x, some (.tup [.int (v : Int), .int (b : Int)]), some (.int (many : Int)), some (.int (kind : Int))]) (fun N hN => ?_) (fun ρ T hM => ?_)
      · simp only [dSeq, dAsg, dRet, dRetN, dIfS, dNext, dDrop, dRaise, dBreak, dCont, dTest, dOp, dVar, dC, dCB, dCons, dNil, dCall, dAndV, dOrV, dNotV, dAndT, dOrT, dNotT, dIf, dTup, dLst, dSl, oSome, oNone, dNeg, gN, gT, gConsD, gNilD, gSubD, dChain, dPar, dAug, dLc, dFor, dBM, isLst, iSeqD, iR1, iR2, iR3, dYes, rdAdd, rdSub, rdMul, rdDiv, rdMod, rdPow, rdIAdd, rdCmp, rdIsN, isNon, rdEqG, rdIx, rdSet, rdSl, rdLen, rdInt1, rdInt, rdInt2, rdAppend, startN, wipeD, List.map_cons, List.map_nil, List.length_cons, List.length_nil, Nat.zero_add, Nat.sub_self, Nat.reduceAdd, Nat.reduceSub, List.replicate_succ, List.replicate_zero, List.cons_append, List.nil_append, List.append_nil, List.getElem?_cons_zero, List.getElem?_cons_succ, List.set_cons_zero, List.set_cons_succ, Option.some.injEq, exists_eq_left', DEnds.xd, atI_0, atI_1, atI_2, atI_3, atI_4, atI_5, atI_6, atI_7, ixN_50, ixN_51, ixN_52, ixN_53, ixN_54, ixN_30, ixN_31, ixN_32, put_same, put_put, true_and, and_true]
        by_cases h9 : kind = 0
        · rw [if_pos (decide_eq_true (b0.mpr h9))]
          rw [if_pos h9] at hN
          rw [cut_mid (by omega) (by omega) (by rw [List.length_map]; omega), ← List.map_drop, ← List.map_take]
          unfold rdExtend
          dsimp only
          rw [put_same]
          dsimp only
          refine ⟨by rw [sizeLine_eq, List.length_map, List.length_map, List.length_take]; omega, ?_⟩
          rw [put_put, ← List.map_append]
          refine hN _ _ ⟨?_, rfl⟩
          rw [show ((hr : Int) + (many : Int)).toNat - (hr : Int).toNat = many by omega, Int.toNat_natCast]
        · rw [if_neg (by rw [decide_eq_false (fun z => h9 (b0.mp z))]; decide)]
          rw [if_neg h9] at hN
          exact hN _ _ ⟨rfl, rfl⟩
      obtain ⟨rfl, rfl⟩ := hM
      simp only [dSeq, dAsg, dRet, dRetN, dIfS, dNext, dDrop, dRaise, dBreak, dCont, dTest, dOp, dVar, dC, dCB, dCons, dNil, dCall, dAndV, dOrV, dNotV, dAndT, dOrT, dNotT, dIf, dTup, dLst, dSl, oSome, oNone, dNeg, gN, gT, gConsD, gNilD, gSubD, dChain, dPar, dAug, dLc, dFor, dBM, isLst, iSeqD, iR1, iR2, iR3, dYes, rdAdd, rdSub, rdMul, rdDiv, rdMod, rdPow, rdIAdd, rdCmp, rdIsN, isNon, rdEqG, rdIx, rdSet, rdSl, rdLen, rdInt1, rdInt, rdInt2, rdAppend, startN, wipeD, List.map_cons, List.map_nil, List.length_cons, List.length_nil, Nat.zero_add, Nat.sub_self, Nat.reduceAdd, Nat.reduceSub, List.replicate_succ, List.replicate_zero, List.cons_append, List.nil_append, List.append_nil, List.getElem?_cons_zero, List.getElem?_cons_succ, List.set_cons_zero, List.set_cons_succ, Option.some.injEq, exists_eq_left', DEnds.xd, atI_0, atI_1, atI_2, atI_3, atI_4, atI_5, atI_6, atI_7, ixN_50, ixN_51, ixN_52, ixN_53, ixN_54, ixN_30, ixN_31, ixN_32, put_same, put_put, true_and, and_true]
      refine ⟨(if kind = 0 then fd ++ (one.drop hr).take many else fd), hr + many, b, _, _, _, _, rfl, hm, hbe.2, by omega, ?_, by rw [← hres]; exact resF_any (by omega) (by omega) (by omega), rfl⟩
      split
      · rw [List.length_append, List.length_take]; omega
      · omega
end Lw

namespace Lw
open PySem PySem.Spec PyProof.Rows L2 VD
/-- known, not the hand, no byte -/
def Dp (a : Addr) (S : Sto) (d : Dv) : Prop := known S d ∧ d ≠ .ref a ∧ within d 0 255 = false
/-- .. and no row -/
def Dq (a : Addr) (S : Sto) (d : Dv) : Prop := Dp a S d ∧ ((∀ xs, d ≠ .tup xs) ∨ ∃ x, d = .tup [x] ∧ Dp a S x)
theorem Dp.hd {a c : Addr} {S S' : Sto} {d : Dv} (k : Dp a S d) (h : Hd a c S S') : Dp a S' d := by
  obtain ⟨⟨t, k1⟩, k2, k3⟩ := k
  refine ⟨⟨t, ?_⟩, k2, k3⟩
  cases d with
  | ref p =>
    have hpa : p ≠ a := fun e => k2 (by rw [e])
    dsimp only [tyN] at k1 ⊢
    cases e : S p with
    | none => rw [e] at k1; cases k1
    | some m =>
      rw [h.s p m hpa e]
      rw [e] at k1
      exact k1
  | _ => exact k1
theorem Dq.hd {a c : Addr} {S S' : Sto} {d : Dv} (k : Dq a S d) (h : Hd a c S S') : Dq a S' d :=
  ⟨k.1.hd h, k.2.elim .inl fun ⟨x, e, q⟩ => .inr ⟨x, e, q.hd h⟩⟩
theorem Dq.no {a : Addr} {S : Sto} {d : Dv} (k : Dq a S d) : knownL S d ∧ isRow d = false := by
  rcases k.2 with h | ⟨x, rfl, hx⟩
  · cases d with
    | tup xs => exact (h xs rfl).elim
    | _ => exact ⟨⟨k.1.1, trivial⟩, rfl⟩
  · refine ⟨⟨k.1.1, fun y hy => ?_⟩, ?_⟩
    · rw [List.mem_singleton.mp hy]
      exact hx.1
    · unfold isRow
      simp [hx.2.2]
theorem Dq.one {a : Addr} {S : Sto} {x : Dv} (h : Dp a S x) : Dq a S (.tup [x]) := ⟨⟨⟨_, rfl⟩, by simp, rfl⟩, .inr ⟨x, rfl, h⟩⟩
theorem Dq.lst {a p : Addr} {S : Sto} {xs : List Dv} (e : S p = some (.lst xs)) (hp : p ≠ a) : Dq a S (.ref p) := ⟨⟨⟨"list", by dsimp only [tyN]; rw [e]⟩, by simp; exact hp, rfl⟩, .inl (by simp)⟩
theorem Dq.dict {a p : Addr} {S : Sto} {xs : List (Key × Dv)} (e : S p = some (.dK xs)) (hp : p ≠ a) : Dq a S (.ref p) := ⟨⟨⟨"dict", by dsimp only [tyN]; rw [e]⟩, by simp; exact hp, rfl⟩, .inl (by simp)⟩
theorem Dq.pl {a : Addr} {S : Sto} {d : Dv} (h : known S d) (h2 : ∀ p, d ≠ .ref p) (h3 : within d 0 255 = false) (h4 : ∀ xs, d ≠ .tup xs) : Dq a S d := ⟨⟨h, h2 a, h3⟩, .inl h4⟩
theorem rd__law_deep : Rd r__law_deep 3 sp__law_deep := by
  rintro ds S Q X ⟨a, c, rfl, hH, h⟩
  unfold r__law_deep
  refine cut_seq (fun ρ T => Hd a c S T ∧ ∃ d, Dq a T d ∧ ρ = [some (.ref a), some d, none]) (fun N hN => ?_) (fun ρ T hM => ?_)
  · simp only [dSeq, dAsg, dRet, dRetN, dIfS, dNext, dDrop, dRaise, dBreak, dCont, dTest, dOp, dVar, dC, dCB, dCons, dNil, dCall, dAndV, dOrV, dNotV, dAndT, dOrT, dNotT, dIf, dTup, dLst, dSl, oSome, oNone, dNeg, gN, gT, gConsD, gNilD, gSubD, dChain, dPar, dAug, dLc, dFor, dBM, isLst, iSeqD, iR1, iR2, iR3, dYes, rdAdd, rdSub, rdMul, rdDiv, rdMod, rdPow, rdIAdd, rdCmp, rdIsN, isNon, rdEqG, rdIx_tup, rdIx_rol, rdSet, rdSl, rdLen, rdInt1, rdInt, rdInt2, rdAppend, startN, wipeD, List.map_cons, List.map_nil, List.length_cons, List.length_nil, Nat.zero_add, Nat.sub_self, Nat.reduceAdd, Nat.reduceSub, List.replicate_succ, List.replicate_zero, List.cons_append, List.nil_append, List.append_nil, List.getElem?_cons_zero, List.getElem?_cons_succ, List.set_cons_zero, List.set_cons_succ, Option.some.injEq, exists_eq_left', DEnds.xd, atI_0, atI_1, atI_2, atI_3, atI_4, atI_5, atI_6, atI_7, ixN_50, ixN_51, ixN_52, ixN_53, ixN_54, ixN_30, ixN_31, ixN_32, put_same, put_put, true_and, and_true, rdIsB, isBlV, rdStrI, rdIntS, rdMulS, dDict0, dDict1, dTry, wD, decide_true, decide_false, Bool.not_true, Bool.not_false, Bool.false_eq_true, if_true, if_false]
    refine fun p hp => ⟨by rw [sizeLine_eq]; decide, fun q hq => ?_⟩
    have d1 := Hd.new (m := .dK []) hH hp
    have d2 := d1.trans (Hd.new (m := .lst [.non, .str (Str.ofString "a"), .int (-1), .ref p]) d1.h hq)
    have npq : p ≠ q := ne_of put_same hq
    refine ⟨a, c, _, rfl, d2.h, by decide, abs10 (n := 20) (by decide) (by decide), fun r T ht h1 h2 => ?_⟩
    have hd := d2.trans ht
    have e : r = 0 ∨ r = 1 ∨ r = 2 ∨ r = 3 := by omega
    have hqa := d1.h.nea hq
    have hpa := hH.nea hp
    rcases e with rfl | rfl | rfl | rfl
    · exact ix_ref (ht.s q _ hqa put_same) rfl (hN _ _ ⟨hd, _, .pl ⟨_, rfl⟩ (by simp) rfl (by simp), rfl⟩)
    · exact ix_ref (ht.s q _ hqa put_same) rfl (hN _ _ ⟨hd, _, .pl ⟨_, rfl⟩ (by simp) rfl (by simp), rfl⟩)
    · exact ix_ref (ht.s q _ hqa put_same) rfl (hN _ _ ⟨hd, _, .pl ⟨_, rfl⟩ (by simp) rfl (by simp), rfl⟩)
    · exact ix_ref (ht.s q _ hqa put_same) rfl (hN _ _ ⟨hd, _, .dict (ht.s p _ hpa (by rw [put_ne npq]; exact put_same)) hpa, rfl⟩)
  obtain ⟨ht, d, hd, rfl⟩ := hM
  refine cut_seq (fun ρ T => Hd a c S T ∧ ∃ d y, Dq a T d ∧ ρ = [some (.ref a), some d, y]) (fun N hN => ?_) (fun ρ T hM => ?_)
  · unfold dFor
    simp only [dIfS, dTest, dOp, dVar, dC, dCB, dCons, dNil, dCall, dAndV, dOrV, dNotV, dAndT, dOrT, dNotT, dIf, dTup, dLst, dSl, oSome, oNone, dNeg, gN, gT, gConsD, gNilD, gSubD, dChain, dLc, dBM, isLst, iSeqD, iR1, iR2, iR3, dYes, rdAdd, rdSub, rdMul, rdDiv, rdMod, rdPow, rdIAdd, rdCmp, rdIsN, isNon, rdEqG, rdIx_tup, rdIx_rol, rdSet, rdSl, rdLen, rdInt1, rdInt, rdInt2, rdAppend, startN, wipeD, List.map_cons, List.map_nil, List.length_cons, List.length_nil, Nat.zero_add, Nat.sub_self, Nat.reduceAdd, Nat.reduceSub, List.replicate_succ, List.replicate_zero, List.cons_append, List.nil_append, List.append_nil, List.getElem?_cons_zero, List.getElem?_cons_succ, List.set_cons_zero, List.set_cons_succ, Option.some.injEq, exists_eq_left', DEnds.xd, atI_0, atI_1, atI_2, atI_3, atI_4, atI_5, atI_6, atI_7, ixN_50, ixN_51, ixN_52, ixN_53, ixN_54, ixN_30, ixN_31, ixN_32, put_same, put_put, true_and, and_true, rdIsB, isBlV, rdStrI, rdIntS, rdMulS, dDict0, dDict1, decide_true, decide_false, Bool.not_true, Bool.not_false, Bool.false_eq_true, if_true, if_false]
    refine ⟨a, c, _, rfl, ht.h, by decide, abs10 (n := 20) (by decide) (by decide), fun r T1 ht1 h1 h2 => ?_⟩
    simp only [dIfS, dTest, dOp, dVar, dC, dCB, dCons, dNil, dCall, dAndV, dOrV, dNotV, dAndT, dOrT, dNotT, dIf, dTup, dLst, dSl, oSome, oNone, dNeg, gN, gT, gConsD, gNilD, gSubD, dChain, dLc, dBM, isLst, iSeqD, iR1, iR2, iR3, dYes, rdAdd, rdSub, rdMul, rdDiv, rdMod, rdPow, rdIAdd, rdCmp, rdIsN, isNon, rdEqG, rdIx_tup, rdIx_rol, rdSet, rdSl, rdLen, rdInt1, rdInt, rdInt2, rdAppend, startN, wipeD, List.map_cons, List.map_nil, List.length_cons, List.length_nil, Nat.zero_add, Nat.sub_self, Nat.reduceAdd, Nat.reduceSub, List.replicate_succ, List.replicate_zero, List.cons_append, List.nil_append, List.append_nil, List.getElem?_cons_zero, List.getElem?_cons_succ, List.set_cons_zero, List.set_cons_succ, Option.some.injEq, exists_eq_left', DEnds.xd, atI_0, atI_1, atI_2, atI_3, atI_4, atI_5, atI_6, atI_7, ixN_50, ixN_51, ixN_52, ixN_53, ixN_54, ixN_30, ixN_31, ixN_32, put_same, put_put, true_and, and_true, rdIsB, isBlV, rdStrI, rdIntS, rdMulS, dDict0, dDict1, decide_true, decide_false, Bool.not_true, Bool.not_false, Bool.false_eq_true, if_true, if_false]
    refine ⟨by omega, by omega, ?_⟩
    refine for_go (fun i ρ T => Hd a c S T ∧ ∃ d y, Dq a T d ∧ ρ = [some (.ref a), some d, y]) ⟨ht.trans ht1, d, none, hd.hd ht1, rfl⟩ (fun _ _ _ _ _ => trivial) (fun i x ρ T hx hw => ?_) fun ρ T hw => hN _ _ hw
    clear ht hd
    obtain ⟨ht, d, y, hd, rfl⟩ := hw
    simp only [dSeq, dAsg, dRet, dRetN, dIfS, dNext, dDrop, dRaise, dBreak, dCont, dTest, dOp, dVar, dC, dCB, dCons, dNil, dCall, dAndV, dOrV, dNotV, dAndT, dOrT, dNotT, dIf, dTup, dLst, dSl, oSome, oNone, dNeg, gN, gT, gConsD, gNilD, gSubD, dChain, dPar, dAug, dLc, dFor, dBM, isLst, iSeqD, iR1, iR2, iR3, dYes, rdAdd, rdSub, rdMul, rdDiv, rdMod, rdPow, rdIAdd, rdCmp, rdIsN, isNon, rdEqG, rdIx_tup, rdIx_rol, rdSet, rdSl, rdLen, rdInt1, rdInt, rdInt2, rdAppend, startN, wipeD, List.map_cons, List.map_nil, List.length_cons, List.length_nil, Nat.zero_add, Nat.sub_self, Nat.reduceAdd, Nat.reduceSub, List.replicate_succ, List.replicate_zero, List.cons_append, List.nil_append, List.append_nil, List.getElem?_cons_zero, List.getElem?_cons_succ, List.set_cons_zero, List.set_cons_succ, Option.some.injEq, exists_eq_left', DEnds.xd, atI_0, atI_1, atI_2, atI_3, atI_4, atI_5, atI_6, atI_7, ixN_50, ixN_51, ixN_52, ixN_53, ixN_54, ixN_30, ixN_31, ixN_32, put_same, put_put, true_and, and_true, rdIsB, isBlV, rdStrI, rdIntS, rdMulS, dDict0, dDict1, dTry, wD, decide_true, decide_false, Bool.not_true, Bool.not_false, Bool.false_eq_true, if_true, if_false]
    have z : ∀ k : Nat, k ≤ 16 → k ≤ sizeLine := fun k hk => by rw [sizeLine_eq]; omega
    refine ⟨z 1 (by decide), z 1 (by decide), fun p hp => ⟨z 2 (by decide), fun q hq => ⟨z 4 (by decide), fun u hu => ?_⟩⟩⟩
    have d1 := Hd.new (m := .lst [d]) ht.h hp
    have d2 := d1.trans (Hd.new (m := .dK [(.inl 0, d)]) d1.h hq)
    have ec : VD.cutD [d, d] none (some 1) = [d] := by rw [cut_take (by decide)]; rfl
    rw [ec]
    have d3 := d2.trans (Hd.new (m := .lst [.tup [d], .ref p, .tup [d], .ref q]) d2.h hu)
    have npq : p ≠ q := ne_of put_same hq
    have npu : p ≠ u := ne_of (m := .lst [d]) (by rw [put_ne npq]; exact put_same) hu
    have nqu : q ≠ u := ne_of put_same hu
    refine ⟨a, c, _, rfl, d3.h, by decide, abs10 (n := 20) (by decide) (by decide), fun r2 T2 ht2 g1 g2 => ?_⟩
    have hall := d3.trans ht2
    have hpa := ht.h.nea hp
    have hqa := d1.h.nea hq
    have hua := d2.h.nea hu
    have e : r2 = 0 ∨ r2 = 1 ∨ r2 = 2 ∨ r2 = 3 := by omega
    rcases e with rfl | rfl | rfl | rfl
    · exact ix_ref (ht2.s u _ hua put_same) rfl ⟨ht.trans hall, _, _, .one (hd.1.hd hall), rfl⟩
    · exact ix_ref (ht2.s u _ hua put_same) rfl ⟨ht.trans hall, _, _, .lst (ht2.s p _ hpa (by rw [put_ne npu, put_ne npq]; exact put_same)) hpa, rfl⟩
    · exact ix_ref (ht2.s u _ hua put_same) rfl ⟨ht.trans hall, _, _, .one (hd.1.hd hall), rfl⟩
    · exact ix_ref (ht2.s u _ hua put_same) rfl ⟨ht.trans hall, _, _, .dict (ht2.s q _ hqa (by rw [put_ne nqu]; exact put_same)) hqa, rfl⟩
  obtain ⟨ht, d, y, hd, rfl⟩ := hM
  simp only [dSeq, dAsg, dRet, dRetN, dIfS, dNext, dDrop, dRaise, dBreak, dCont, dTest, dOp, dVar, dC, dCB, dCons, dNil, dCall, dAndV, dOrV, dNotV, dAndT, dOrT, dNotT, dIf, dTup, dLst, dSl, oSome, oNone, dNeg, gN, gT, gConsD, gNilD, gSubD, dChain, dPar, dAug, dLc, dFor, dBM, isLst, iSeqD, iR1, iR2, iR3, dYes, rdAdd, rdSub, rdMul, rdDiv, rdMod, rdPow, rdIAdd, rdCmp, rdIsN, isNon, rdEqG, rdIx_tup, rdIx_rol, rdSet, rdSl, rdLen, rdInt1, rdInt, rdInt2, rdAppend, startN, wipeD, List.map_cons, List.map_nil, List.length_cons, List.length_nil, Nat.zero_add, Nat.sub_self, Nat.reduceAdd, Nat.reduceSub, List.replicate_succ, List.replicate_zero, List.cons_append, List.nil_append, List.append_nil, List.getElem?_cons_zero, List.getElem?_cons_succ, List.set_cons_zero, List.set_cons_succ, Option.some.injEq, exists_eq_left', DEnds.xd, atI_0, atI_1, atI_2, atI_3, atI_4, atI_5, atI_6, atI_7, ixN_50, ixN_51, ixN_52, ixN_53, ixN_54, ixN_30, ixN_31, ixN_32, put_same, put_put, true_and, and_true, rdIsB, isBlV, rdStrI, rdIntS, rdMulS, dDict0, dDict1, dTry, wD, decide_true, decide_false, Bool.not_true, Bool.not_false, Bool.false_eq_true, if_true, if_false]
  exact h _ _ ht (fun S2 h2 => (hd.hd h2).no.1) hd.no.2
end Lw

namespace Lw
open PySem PySem.Spec PyProof.Rows L2 VD
theorem figs_by {n : Int} (h0 : 0 ≤ n) (h1 : n < 18446744073709551616) : By (figs n) := figF_ok 9 n h0 (by rw [pow_top]; omega)
theorem figs_len (n : Int) : 1 ≤ (figs n).length ∧ (figs n).length ≤ 10 := figF_len 9 n
theorem rd__law_drawn_change : Rd r__law_drawn_change 9 sp__law_drawn_change := by
  rintro ds S Q X ⟨a, c, xs, rfl, hH, hx, h⟩
  unfold r__law_drawn_change
  have hxl := hx.1
  have c61 : CPow 2 61 := ⟨by decide, by decide, by decide⟩
  have e61 : (2 : Int) ^ Int.toNat 61 = 2305843009213693952 := by decide
  refine cut_seq (fun ρ T => T = S ∧ ρ = [some (.ref a), some (.tup (List.map Dv.int xs)), some (.tup []), none, none, none, none, none, none]) (fun N hN => ?_) (fun ρ T hM => ?_)
  · simp only [dSeq, dAsg, dRet, dRetN, dIfS, dNext, dDrop, dRaise, dBreak, dCont, dTest, dOp, dVar, dC, dCB, dCons, dNil, dCall, dAndV, dOrV, dNotV, dAndT, dOrT, dNotT, dIf, dTup, dLst, dSl, oSome, oNone, dNeg, gN, gT, gConsD, gNilD, gSubD, dChain, dPar, dAug, dLc, dFor, dBM, isLst, iSeqD, iR1, iR2, iR3, dYes, rdAdd, rdSub, rdMul, rdDiv, rdMod, rdPow, rdIAdd, rdCmp, rdIsN, isNon, rdEqG, rdIx, rdSet, rdSl, rdLen, rdInt1, rdInt, rdInt2, rdAppend, startN, wipeD, List.map_cons, List.map_nil, List.length_cons, List.length_nil, Nat.zero_add, Nat.sub_self, Nat.reduceAdd, Nat.reduceSub, List.replicate_succ, List.replicate_zero, List.cons_append, List.nil_append, List.append_nil, List.getElem?_cons_zero, List.getElem?_cons_succ, List.set_cons_zero, List.set_cons_succ, Option.some.injEq, exists_eq_left', DEnds.xd, atI_0, atI_1, atI_2, atI_3, atI_4, atI_5, atI_6, atI_7, ixN_50, ixN_51, ixN_52, ixN_53, ixN_54, ixN_30, ixN_31, ixN_32, put_same, put_put, true_and, and_true]
    exact ⟨Nat.zero_le _, hN _ _ ⟨rfl, rfl⟩⟩
  obtain ⟨rfl, rfl⟩ := hM
  refine cut_seq (fun ρ U => U = T ∧ ρ = [some (.ref a), some (.tup (List.map Dv.int xs)), some (.tup []), some (.int 0), none, none, none, none, none]) (fun N hN => ?_) (fun ρ U hM => ?_)
  · simp only [dSeq, dAsg, dRet, dRetN, dIfS, dNext, dDrop, dRaise, dBreak, dCont, dTest, dOp, dVar, dC, dCB, dCons, dNil, dCall, dAndV, dOrV, dNotV, dAndT, dOrT, dNotT, dIf, dTup, dLst, dSl, oSome, oNone, dNeg, gN, gT, gConsD, gNilD, gSubD, dChain, dPar, dAug, dLc, dFor, dBM, isLst, iSeqD, iR1, iR2, iR3, dYes, rdAdd, rdSub, rdMul, rdDiv, rdMod, rdPow, rdIAdd, rdCmp, rdIsN, isNon, rdEqG, rdIx, rdSet, rdSl, rdLen, rdInt1, rdInt, rdInt2, rdAppend, startN, wipeD, List.map_cons, List.map_nil, List.length_cons, List.length_nil, Nat.zero_add, Nat.sub_self, Nat.reduceAdd, Nat.reduceSub, List.replicate_succ, List.replicate_zero, List.cons_append, List.nil_append, List.append_nil, List.getElem?_cons_zero, List.getElem?_cons_succ, List.set_cons_zero, List.set_cons_succ, Option.some.injEq, exists_eq_left', DEnds.xd, atI_0, atI_1, atI_2, atI_3, atI_4, atI_5, atI_6, atI_7, ixN_50, ixN_51, ixN_52, ixN_53, ixN_54, ixN_30, ixN_31, ixN_32, put_same, put_put, true_and, and_true]
    exact hN _ _ ⟨rfl, rfl⟩
  obtain ⟨rfl, rfl⟩ := hM
  refine cut_seq (fun ρ T => Hd a c U T ∧ ∃ (ys : List Int) (y3 y4 y5 y6 y7 y8 : Option Dv), okR 1000 ys ∧ ρ = [some (.ref a), some (.tup (List.map Dv.int xs)), some (.tup (List.map Dv.int ys)), y3, y4, y5, y6, y7, y8]) (fun N hN => ?_) (fun ρ T hM => ?_)
  · unfold dFor
    simp only [dIfS, dTest, dOp, dVar, dC, dCB, dCons, dNil, dCall, dAndV, dOrV, dNotV, dAndT, dOrT, dNotT, dIf, dTup, dLst, dSl, oSome, oNone, dNeg, gN, gT, gConsD, gNilD, gSubD, dChain, dLc, dBM, isLst, iSeqD, iR1, iR2, iR3, dYes, rdAdd, rdSub, rdMul, rdDiv, rdMod, rdPow, rdIAdd, rdCmp, rdIsN, isNon, rdEqG, rdIx_tup, rdIx_rol, rdSet, rdSl, rdLen, rdInt1, rdInt, rdInt2, rdAppend, startN, wipeD, List.map_cons, List.map_nil, List.length_cons, List.length_nil, Nat.zero_add, Nat.sub_self, Nat.reduceAdd, Nat.reduceSub, List.replicate_succ, List.replicate_zero, List.cons_append, List.nil_append, List.append_nil, List.getElem?_cons_zero, List.getElem?_cons_succ, List.set_cons_zero, List.set_cons_succ, Option.some.injEq, exists_eq_left', DEnds.xd, atI_0, atI_1, atI_2, atI_3, atI_4, atI_5, atI_6, atI_7, ixN_50, ixN_51, ixN_52, ixN_53, ixN_54, ixN_30, ixN_31, ixN_32, put_same, put_put, true_and, and_true, rdIsB, isBlV, rdStrI, rdIntS, rdMulS, dDict0, dDict1, decide_true, decide_false, Bool.not_true, Bool.not_false, Bool.false_eq_true, if_true, if_false]
    refine ⟨a, c, _, rfl, hH, by decide, abs10 (n := 20) (by decide) (by decide), fun r T1 ht1 h1 h2 => ?_⟩
    simp only [dIfS, dTest, dOp, dVar, dC, dCB, dCons, dNil, dCall, dAndV, dOrV, dNotV, dAndT, dOrT, dNotT, dIf, dTup, dLst, dSl, oSome, oNone, dNeg, gN, gT, gConsD, gNilD, gSubD, dChain, dLc, dBM, isLst, iSeqD, iR1, iR2, iR3, dYes, rdAdd, rdSub, rdMul, rdDiv, rdMod, rdPow, rdIAdd, rdCmp, rdIsN, isNon, rdEqG, rdIx_tup, rdIx_rol, rdSet, rdSl, rdLen, rdInt1, rdInt, rdInt2, rdAppend, startN, wipeD, List.map_cons, List.map_nil, List.length_cons, List.length_nil, Nat.zero_add, Nat.sub_self, Nat.reduceAdd, Nat.reduceSub, List.replicate_succ, List.replicate_zero, List.cons_append, List.nil_append, List.append_nil, List.getElem?_cons_zero, List.getElem?_cons_succ, List.set_cons_zero, List.set_cons_succ, Option.some.injEq, exists_eq_left', DEnds.xd, atI_0, atI_1, atI_2, atI_3, atI_4, atI_5, atI_6, atI_7, ixN_50, ixN_51, ixN_52, ixN_53, ixN_54, ixN_30, ixN_31, ixN_32, put_same, put_put, true_and, and_true, rdIsB, isBlV, rdStrI, rdIntS, rdMulS, dDict0, dDict1, decide_true, decide_false, Bool.not_true, Bool.not_false, Bool.false_eq_true, if_true, if_false]
    refine ⟨by omega, by omega, ?_⟩
    refine for_go (fun i ρ T => Hd a c U T ∧ ∃ (ys : List Int) (k : Int) (y4 y5 y6 y7 y8 : Option Dv), okR (61 * i) ys ∧ 0 ≤ k ∧ k ≤ xs.length ∧ ρ = [some (.ref a), some (.tup (List.map Dv.int xs)), some (.tup (List.map Dv.int ys)), some (.int k), y4, y5, y6, y7, y8]) ⟨ht1, [], 0, none, none, none, none, none, ⟨by simp, fun _ hm => by cases hm⟩, by decide, by omega, rfl⟩ (fun _ _ _ _ _ => trivial) (fun i x ρ T hx2 hw => ?_) fun ρ T hw => ?_
    · obtain ⟨ht, ys, k, y4, y5, y6, y7, y8, hy, hk0, hk1, rfl⟩ := hw
      obtain ⟨hi, rfl⟩ := rangeL_mem hx2
      have hyl := hy.1
      have hi9 : i ≤ 8 := by omega
      simp only [dIfS, dTest, dOp, dVar, dC, dCB, dCons, dNil, dCall, dAndV, dOrV, dNotV, dAndT, dOrT, dNotT, dIf, dTup, dLst, dSl, oSome, oNone, dNeg, gN, gT, gConsD, gNilD, gSubD, dChain, dLc, dBM, isLst, iSeqD, iR1, iR2, iR3, dYes, rdAdd, rdSub, rdMul, rdDiv, rdMod, rdPow, rdIAdd, rdCmp, rdIsN, isNon, rdEqG, rdIx_tup, rdIx_rol, rdSet, rdSl, rdLen, rdInt1, rdInt, rdInt2, rdAppend, startN, wipeD, List.map_cons, List.map_nil, List.length_cons, List.length_nil, Nat.zero_add, Nat.sub_self, Nat.reduceAdd, Nat.reduceSub, List.replicate_succ, List.replicate_zero, List.cons_append, List.nil_append, List.append_nil, List.getElem?_cons_zero, List.getElem?_cons_succ, List.set_cons_zero, List.set_cons_succ, Option.some.injEq, exists_eq_left', DEnds.xd, atI_0, atI_1, atI_2, atI_3, atI_4, atI_5, atI_6, atI_7, ixN_50, ixN_51, ixN_52, ixN_53, ixN_54, ixN_30, ixN_31, ixN_32, put_same, put_put, true_and, and_true, rdIsB, isBlV, rdStrI, rdIntS, rdMulS, dDict0, dDict1, decide_true, decide_false, Bool.not_true, Bool.not_false, Bool.false_eq_true, if_true, if_false]
      refine cut_seq (fun ρ T => Hd a c U T ∧ ∃ kd : Int, 0 ≤ kd ∧ kd < 3 ∧ ρ = [some (.ref a), some (.tup (List.map Dv.int xs)), some (.tup (List.map Dv.int ys)), some (.int k), some (.int (0 + i)), some (.int kd), y6, y7, y8]) (fun N hN => ?_) (fun ρ T hM => ?_)
      · simp only [dSeq, dAsg, dRet, dRetN, dIfS, dNext, dDrop, dRaise, dBreak, dCont, dTest, dOp, dVar, dC, dCB, dCons, dNil, dCall, dAndV, dOrV, dNotV, dAndT, dOrT, dNotT, dIf, dTup, dLst, dSl, oSome, oNone, dNeg, gN, gT, gConsD, gNilD, gSubD, dChain, dPar, dAug, dLc, dFor, dBM, isLst, iSeqD, iR1, iR2, iR3, dYes, rdAdd, rdSub, rdMul, rdDiv, rdMod, rdPow, rdIAdd, rdCmp, rdIsN, isNon, rdEqG, rdIx_tup, rdIx_rol, rdSet, rdSl, rdLen, rdInt1, rdInt, rdInt2, rdAppend, startN, wipeD, List.map_cons, List.map_nil, List.length_cons, List.length_nil, Nat.zero_add, Nat.sub_self, Nat.reduceAdd, Nat.reduceSub, List.replicate_succ, List.replicate_zero, List.cons_append, List.nil_append, List.append_nil, List.getElem?_cons_zero, List.getElem?_cons_succ, List.set_cons_zero, List.set_cons_succ, Option.some.injEq, exists_eq_left', DEnds.xd, atI_0, atI_1, atI_2, atI_3, atI_4, atI_5, atI_6, atI_7, ixN_50, ixN_51, ixN_52, ixN_53, ixN_54, ixN_30, ixN_31, ixN_32, put_same, put_put, true_and, and_true, rdIsB, isBlV, rdStrI, rdIntS, rdMulS, dDict0, dDict1, dTry, wD, decide_true, decide_false, Bool.not_true, Bool.not_false, Bool.false_eq_true, if_true, if_false]
        exact ⟨a, c, _, rfl, ht.h, by decide, abs10 (n := 20) (by decide) (by decide), fun r T2 ht2 g1 g2 => hN _ _ ⟨ht.trans ht2, r, g1, g2, rfl⟩⟩
      clear ht
      obtain ⟨ht, kd, hkd0, hkd3, rfl⟩ := hM
      simp only [dIfS, dTest, dOp, dVar, dC, dCB, dCons, dNil, dCall, dAndV, dOrV, dNotV, dAndT, dOrT, dNotT, dIf, dTup, dLst, dSl, oSome, oNone, dNeg, gN, gT, gConsD, gNilD, gSubD, dChain, dLc, dBM, isLst, iSeqD, iR1, iR2, iR3, dYes, rdAdd, rdSub, rdMul, rdDiv, rdMod, rdPow, rdIAdd, rdCmp, rdIsN, isNon, rdEqG, rdIx_tup, rdIx_rol, rdSet, rdSl, rdLen, rdInt1, rdInt, rdInt2, rdAppend, startN, wipeD, List.map_cons, List.map_nil, List.length_cons, List.length_nil, Nat.zero_add, Nat.sub_self, Nat.reduceAdd, Nat.reduceSub, List.replicate_succ, List.replicate_zero, List.cons_append, List.nil_append, List.append_nil, List.getElem?_cons_zero, List.getElem?_cons_succ, List.set_cons_zero, List.set_cons_succ, Option.some.injEq, exists_eq_left', DEnds.xd, atI_0, atI_1, atI_2, atI_3, atI_4, atI_5, atI_6, atI_7, ixN_50, ixN_51, ixN_52, ixN_53, ixN_54, ixN_30, ixN_31, ixN_32, put_same, put_put, true_and, and_true, rdIsB, isBlV, rdStrI, rdIntS, rdMulS, dDict0, dDict1, decide_true, decide_false, Bool.not_true, Bool.not_false, Bool.false_eq_true, if_true, if_false]
      have more : ∀ (ns : List Int), ns.length ≤ 61 → By ns → okR (61 * (i + 1)) (ys ++ ns) := fun ns g1 g2 => ⟨by rw [List.length_append]; omega, By.app hy.2 g2⟩
      by_cases h2 : kd = 2
      · rw [if_pos (decide_eq_true h2)]
        refine cut_seq (fun ρ T => Hd a c U T ∧ ∃ ns : List Int, By ns ∧ ns.length ≤ 50 ∧ ρ = [some (.ref a), some (.tup (List.map Dv.int xs)), some (.tup (List.map Dv.int ys)), some (.int k), some (.int (0 + i)), some (.int kd), some (.tup (List.map Dv.int ns)), y7, y8]) (fun N hN => ?_) (fun ρ T hM => ?_)
        · simp only [dSeq, dAsg, dRet, dRetN, dIfS, dNext, dDrop, dRaise, dBreak, dCont, dTest, dOp, dVar, dC, dCB, dCons, dNil, dCall, dAndV, dOrV, dNotV, dAndT, dOrT, dNotT, dIf, dTup, dLst, dSl, oSome, oNone, dNeg, gN, gT, gConsD, gNilD, gSubD, dChain, dPar, dAug, dLc, dFor, dBM, isLst, iSeqD, iR1, iR2, iR3, dYes, rdAdd, rdSub, rdMul, rdDiv, rdMod, rdPow, rdIAdd, rdCmp, rdIsN, isNon, rdEqG, rdIx_tup, rdIx_rol, rdSet, rdSl, rdLen, rdInt1, rdInt, rdInt2, rdAppend, startN, wipeD, List.map_cons, List.map_nil, List.length_cons, List.length_nil, Nat.zero_add, Nat.sub_self, Nat.reduceAdd, Nat.reduceSub, List.replicate_succ, List.replicate_zero, List.cons_append, List.nil_append, List.append_nil, List.getElem?_cons_zero, List.getElem?_cons_succ, List.set_cons_zero, List.set_cons_succ, Option.some.injEq, exists_eq_left', DEnds.xd, atI_0, atI_1, atI_2, atI_3, atI_4, atI_5, atI_6, atI_7, ixN_50, ixN_51, ixN_52, ixN_53, ixN_54, ixN_30, ixN_31, ixN_32, put_same, put_put, true_and, and_true, rdIsB, isBlV, rdStrI, rdIntS, rdMulS, dDict0, dDict1, dTry, wD, decide_true, decide_false, Bool.not_true, Bool.not_false, Bool.false_eq_true, if_true, if_false]
          refine ⟨a, c, _, rfl, ht.h, by decide, abs10 (n := 20) (by decide) (by decide), fun r2 T2 ht2 g1 g2 => ?_⟩
          simp only [dSeq, dAsg, dRet, dRetN, dIfS, dNext, dDrop, dRaise, dBreak, dCont, dTest, dOp, dVar, dC, dCB, dCons, dNil, dCall, dAndV, dOrV, dNotV, dAndT, dOrT, dNotT, dIf, dTup, dLst, dSl, oSome, oNone, dNeg, gN, gT, gConsD, gNilD, gSubD, dChain, dPar, dAug, dLc, dFor, dBM, isLst, iSeqD, iR1, iR2, iR3, dYes, rdAdd, rdSub, rdMul, rdDiv, rdMod, rdPow, rdIAdd, rdCmp, rdIsN, isNon, rdEqG, rdIx_tup, rdIx_rol, rdSet, rdSl, rdLen, rdInt1, rdInt, rdInt2, rdAppend, startN, wipeD, List.map_cons, List.map_nil, List.length_cons, List.length_nil, Nat.zero_add, Nat.sub_self, Nat.reduceAdd, Nat.reduceSub, List.replicate_succ, List.replicate_zero, List.cons_append, List.nil_append, List.append_nil, List.getElem?_cons_zero, List.getElem?_cons_succ, List.set_cons_zero, List.set_cons_succ, Option.some.injEq, exists_eq_left', DEnds.xd, atI_0, atI_1, atI_2, atI_3, atI_4, atI_5, atI_6, atI_7, ixN_50, ixN_51, ixN_52, ixN_53, ixN_54, ixN_30, ixN_31, ixN_32, put_same, put_put, true_and, and_true, rdIsB, isBlV, rdStrI, rdIntS, rdMulS, dDict0, dDict1, dTry, wD, decide_true, decide_false, Bool.not_true, Bool.not_false, Bool.false_eq_true, if_true, if_false]
          refine ⟨by omega, by omega, ?_⟩
          refine tup_hand (a := a) (c := c) (fun _ y => ∃ r, y = .int r ∧ 0 ≤ r ∧ r < 256) ht2.h ?_ (fun _ _ => trivial) (fun j x hx p T3 K hT hp k => ?_) fun T3 acc hT hlen hacc => ?_
          · rw [rangeL_len, sizeLine_eq]; omega
          · simp only [dSeq, dAsg, dRet, dRetN, dIfS, dNext, dDrop, dRaise, dBreak, dCont, dTest, dOp, dVar, dC, dCB, dCons, dNil, dCall, dAndV, dOrV, dNotV, dAndT, dOrT, dNotT, dIf, dTup, dLst, dSl, oSome, oNone, dNeg, gN, gT, gConsD, gNilD, gSubD, dChain, dPar, dAug, dLc, dFor, dBM, isLst, iSeqD, iR1, iR2, iR3, dYes, rdAdd, rdSub, rdMul, rdDiv, rdMod, rdPow, rdIAdd, rdCmp, rdIsN, isNon, rdEqG, rdIx_tup, rdIx_rol, rdSet, rdSl, rdLen, rdInt1, rdInt, rdInt2, rdAppend, startN, wipeD, List.map_cons, List.map_nil, List.length_cons, List.length_nil, Nat.zero_add, Nat.sub_self, Nat.reduceAdd, Nat.reduceSub, List.replicate_succ, List.replicate_zero, List.cons_append, List.nil_append, List.append_nil, List.getElem?_cons_zero, List.getElem?_cons_succ, List.set_cons_zero, List.set_cons_succ, Option.some.injEq, exists_eq_left', DEnds.xd, atI_0, atI_1, atI_2, atI_3, atI_4, atI_5, atI_6, atI_7, ixN_50, ixN_51, ixN_52, ixN_53, ixN_54, ixN_30, ixN_31, ixN_32, put_same, put_put, true_and, and_true, rdIsB, isBlV, rdStrI, rdIntS, rdMulS, dDict0, dDict1, dTry, wD, decide_true, decide_false, Bool.not_true, Bool.not_false, Bool.false_eq_true, if_true, if_false]
            exact ⟨a, c, rfl, hT.h, fun r T' ht h1 h2 => k _ _ ⟨r, rfl, h1, h2⟩ ht⟩
          · obtain ⟨ns, rfl, hns⟩ := ints_of (P := fun r => 0 ≤ r ∧ r < 256) hacc
            rw [List.length_map, rangeL_len] at hlen
            exact hN _ _ ⟨(ht.trans ht2).trans hT, ns, hns, by omega, rfl⟩
        clear ht
        obtain ⟨ht, ns, hns, hnl, rfl⟩ := hM
        simp only [dSeq, dAsg, dRet, dRetN, dIfS, dNext, dDrop, dRaise, dBreak, dCont, dTest, dOp, dVar, dC, dCB, dCons, dNil, dCall, dAndV, dOrV, dNotV, dAndT, dOrT, dNotT, dIf, dTup, dLst, dSl, oSome, oNone, dNeg, gN, gT, gConsD, gNilD, gSubD, dChain, dPar, dAug, dLc, dFor, dBM, isLst, iSeqD, iR1, iR2, iR3, dYes, rdAdd, rdSub, rdMul, rdDiv, rdMod, rdPow, rdIAdd, rdCmp, rdIsN, isNon, rdEqG, rdIx_tup, rdIx_rol, rdSet, rdSl, rdLen, rdInt1, rdInt, rdInt2, rdAppend, startN, wipeD, List.map_cons, List.map_nil, List.length_cons, List.length_nil, Nat.zero_add, Nat.sub_self, Nat.reduceAdd, Nat.reduceSub, List.replicate_succ, List.replicate_zero, List.cons_append, List.nil_append, List.append_nil, List.getElem?_cons_zero, List.getElem?_cons_succ, List.set_cons_zero, List.set_cons_succ, Option.some.injEq, exists_eq_left', DEnds.xd, atI_0, atI_1, atI_2, atI_3, atI_4, atI_5, atI_6, atI_7, ixN_50, ixN_51, ixN_52, ixN_53, ixN_54, ixN_30, ixN_31, ixN_32, put_same, put_put, true_and, and_true, rdIsB, isBlV, rdStrI, rdIntS, rdMulS, dDict0, dDict1, dTry, wD, decide_true, decide_false, Bool.not_true, Bool.not_false, Bool.false_eq_true, if_true, if_false]
        rw [List.length_map]
        refine ⟨mulok_l (by decide) (by decide), _, rfl, by omega, by omega, ?_⟩
        have hf := figs_len (3 * (ns.length : Int) + 2)
        simp only [dSeq, dAsg, dRet, dRetN, dIfS, dNext, dDrop, dRaise, dBreak, dCont, dTest, dOp, dVar, dC, dCB, dCons, dNil, dCall, dAndV, dOrV, dNotV, dAndT, dOrT, dNotT, dIf, dTup, dLst, dSl, oSome, oNone, dNeg, gN, gT, gConsD, gNilD, gSubD, dChain, dPar, dAug, dLc, dFor, dBM, isLst, iSeqD, iR1, iR2, iR3, dYes, rdAdd, rdSub, rdMul, rdDiv, rdMod, rdPow, rdIAdd, rdCmp, rdIsN, isNon, rdEqG, rdIx_tup, rdIx_rol, rdSet, rdSl, rdLen, rdInt1, rdInt, rdInt2, rdAppend, startN, wipeD, List.map_cons, List.map_nil, List.length_cons, List.length_nil, Nat.zero_add, Nat.sub_self, Nat.reduceAdd, Nat.reduceSub, List.replicate_succ, List.replicate_zero, List.cons_append, List.nil_append, List.append_nil, List.getElem?_cons_zero, List.getElem?_cons_succ, List.set_cons_zero, List.set_cons_succ, Option.some.injEq, exists_eq_left', DEnds.xd, atI_0, atI_1, atI_2, atI_3, atI_4, atI_5, atI_6, atI_7, ixN_50, ixN_51, ixN_52, ixN_53, ixN_54, ixN_30, ixN_31, ixN_32, put_same, put_put, true_and, and_true, rdIsB, isBlV, rdStrI, rdIntS, rdMulS, dDict0, dDict1, dTry, wD, decide_true, decide_false, Bool.not_true, Bool.not_false, Bool.false_eq_true, if_true, if_false]
        simp only [← List.map_append]
        refine ⟨?_, ?_, ht, _, k, _, _, _, _, _, ?_, hk0, hk1, rfl⟩
        · simp only [List.length_map]; rw [sizeLine_eq]; omega
        · simp only [List.length_map, List.length_append]; rw [sizeLine_eq]; omega
        · rw [List.append_assoc]
          exact more _ (by rw [List.length_append]; omega) (By.app (figs_by (by omega) (by omega)) hns)
      · rw [if_neg (by rw [decide_eq_false h2]; decide)]
        refine cut_seq (fun ρ T => Hd a c U T ∧ ∃ m : Int, 0 ≤ m ∧ m ≤ 2305843009213693952 ∧ ρ = [some (.ref a), some (.tup (List.map Dv.int xs)), some (.tup (List.map Dv.int ys)), some (.int k), some (.int (0 + i)), some (.int kd), y6, some (.int m), y8]) (fun N hN => ?_) (fun ρ T hM => ?_)
        · simp only [dSeq, dAsg, dRet, dRetN, dIfS, dNext, dDrop, dRaise, dBreak, dCont, dTest, dOp, dVar, dC, dCB, dCons, dNil, dCall, dAndV, dOrV, dNotV, dAndT, dOrT, dNotT, dIf, dTup, dLst, dSl, oSome, oNone, dNeg, gN, gT, gConsD, gNilD, gSubD, dChain, dPar, dAug, dLc, dFor, dBM, isLst, iSeqD, iR1, iR2, iR3, dYes, rdAdd, rdSub, rdMul, rdDiv, rdMod, rdPow, rdIAdd, rdCmp, rdIsN, isNon, rdEqG, rdIx_tup, rdIx_rol, rdSet, rdSl, rdLen, rdInt1, rdInt, rdInt2, rdAppend, startN, wipeD, List.map_cons, List.map_nil, List.length_cons, List.length_nil, Nat.zero_add, Nat.sub_self, Nat.reduceAdd, Nat.reduceSub, List.replicate_succ, List.replicate_zero, List.cons_append, List.nil_append, List.append_nil, List.getElem?_cons_zero, List.getElem?_cons_succ, List.set_cons_zero, List.set_cons_succ, Option.some.injEq, exists_eq_left', DEnds.xd, atI_0, atI_1, atI_2, atI_3, atI_4, atI_5, atI_6, atI_7, ixN_50, ixN_51, ixN_52, ixN_53, ixN_54, ixN_30, ixN_31, ixN_32, put_same, put_put, true_and, and_true, rdIsB, isBlV, rdStrI, rdIntS, rdMulS, dDict0, dDict1, dTry, wD, decide_true, decide_false, Bool.not_true, Bool.not_false, Bool.false_eq_true, if_true, if_false]
          rw [List.length_map]
          exact ⟨a, c, _, rfl, ht.h, by omega, abs10 (n := 20) (by omega) (by omega), fun r2 T2 ht2 g1 g2 => hN _ _ ⟨ht.trans ht2, r2, g1, by omega, rfl⟩⟩
        clear ht
        obtain ⟨ht, m, hm0, hm1, rfl⟩ := hM
        refine cut_seq (fun ρ T => Hd a c U T ∧ ∃ m : Int, 0 ≤ m ∧ m ≤ 2305843009213693952 ∧ ρ = [some (.ref a), some (.tup (List.map Dv.int xs)), some (.tup (List.map Dv.int ys)), some (.int k), some (.int (0 + i)), some (.int kd), y6, some (.int m), y8]) (fun N hN => ?_) (fun ρ T hM => ?_)
        · simp only [dSeq, dAsg, dRet, dRetN, dIfS, dNext, dDrop, dRaise, dBreak, dCont, dTest, dOp, dVar, dC, dCB, dCons, dNil, dCall, dAndV, dOrV, dNotV, dAndT, dOrT, dNotT, dIf, dTup, dLst, dSl, oSome, oNone, dNeg, gN, gT, gConsD, gNilD, gSubD, dChain, dPar, dAug, dLc, dFor, dBM, isLst, iSeqD, iR1, iR2, iR3, dYes, rdAdd, rdSub, rdMul, rdDiv, rdMod, rdPow, rdIAdd, rdCmp, rdIsN, isNon, rdEqG, rdIx_tup, rdIx_rol, rdSet, rdSl, rdLen, rdInt1, rdInt, rdInt2, rdAppend, startN, wipeD, List.map_cons, List.map_nil, List.length_cons, List.length_nil, Nat.zero_add, Nat.sub_self, Nat.reduceAdd, Nat.reduceSub, List.replicate_succ, List.replicate_zero, List.cons_append, List.nil_append, List.append_nil, List.getElem?_cons_zero, List.getElem?_cons_succ, List.set_cons_zero, List.set_cons_succ, Option.some.injEq, exists_eq_left', DEnds.xd, atI_0, atI_1, atI_2, atI_3, atI_4, atI_5, atI_6, atI_7, ixN_50, ixN_51, ixN_52, ixN_53, ixN_54, ixN_30, ixN_31, ixN_32, put_same, put_put, true_and, and_true, rdIsB, isBlV, rdStrI, rdIntS, rdMulS, dDict0, dDict1, dTry, wD, decide_true, decide_false, Bool.not_true, Bool.not_false, Bool.false_eq_true, if_true, if_false]
          refine ⟨a, c, _, rfl, ht.h, by decide, abs10 (n := 20) (by decide) (by decide), fun r2 T2 ht2 g1 g2 => ?_⟩
          simp only [dSeq, dAsg, dRet, dRetN, dIfS, dNext, dDrop, dRaise, dBreak, dCont, dTest, dOp, dVar, dC, dCB, dCons, dNil, dCall, dAndV, dOrV, dNotV, dAndT, dOrT, dNotT, dIf, dTup, dLst, dSl, oSome, oNone, dNeg, gN, gT, gConsD, gNilD, gSubD, dChain, dPar, dAug, dLc, dFor, dBM, isLst, iSeqD, iR1, iR2, iR3, dYes, rdAdd, rdSub, rdMul, rdDiv, rdMod, rdPow, rdIAdd, rdCmp, rdIsN, isNon, rdEqG, rdIx_tup, rdIx_rol, rdSet, rdSl, rdLen, rdInt1, rdInt, rdInt2, rdAppend, startN, wipeD, List.map_cons, List.map_nil, List.length_cons, List.length_nil, Nat.zero_add, Nat.sub_self, Nat.reduceAdd, Nat.reduceSub, List.replicate_succ, List.replicate_zero, List.cons_append, List.nil_append, List.append_nil, List.getElem?_cons_zero, List.getElem?_cons_succ, List.set_cons_zero, List.set_cons_succ, Option.some.injEq, exists_eq_left', DEnds.xd, atI_0, atI_1, atI_2, atI_3, atI_4, atI_5, atI_6, atI_7, ixN_50, ixN_51, ixN_52, ixN_53, ixN_54, ixN_30, ixN_31, ixN_32, put_same, put_put, true_and, and_true, rdIsB, isBlV, rdStrI, rdIntS, rdMulS, dDict0, dDict1, dTry, wD, decide_true, decide_false, Bool.not_true, Bool.not_false, Bool.false_eq_true, if_true, if_false]
          rw [List.length_map, e61]
          split
          · refine ⟨c61, by rw [sizeLine_eq]; decide, fun p hp => ?_⟩
            refine ⟨a, c, _, rfl, ht2.h.new hp, by decide, abs10 (n := 20) (by decide) (by decide), fun r3 T3 ht3 g3 g4 => ?_⟩
            obtain ⟨w, hw, hw0, hw1⟩ : ∃ w, atI [Dv.int 0, .int ((xs.length : Int) - k + 1), .int 2305843009213693952] r3 = some (.int w) ∧ 0 ≤ w ∧ w ≤ 2305843009213693952 := by
              have : r3 = 0 ∨ r3 = 1 ∨ r3 = 2 := by omega
              rcases this with rfl | rfl | rfl
              · exact ⟨_, rfl, by decide, by decide⟩
              · exact ⟨_, rfl, by omega, by omega⟩
              · exact ⟨_, rfl, by decide, by decide⟩
            exact ix_ref (ht3.s p _ (ht2.h.nea hp) put_same) hw (hN _ _ ⟨((ht.trans ht2).trans (.new ht2.h hp)).trans ht3, w, hw0, hw1, rfl⟩)
          · exact hN _ _ ⟨ht.trans ht2, m, hm0, hm1, rfl⟩
        clear ht
        obtain ⟨ht, m, hm0, hm1, rfl⟩ := hM
        refine cut_seq (fun ρ T => Hd a c U T ∧ ∃ zs : List Int, okR (61 * (i + 1)) zs ∧ ρ = [some (.ref a), some (.tup (List.map Dv.int xs)), some (.tup (List.map Dv.int zs)), some (.int k), some (.int (0 + i)), some (.int kd), y6, some (.int m), y8]) (fun N hN => ?_) (fun ρ T hM => ?_)
        · have put : ∀ T2, Hd a c U T2 → dAsg (dOp rdAdd (dVar 2) (dCall sp__law_whole (dCons (dOp rdAdd (dOp rdMul (dC (.int 3)) (dVar 7)) (dVar 5)) dNil))) (gN 2) { nx := N, rt := Q, ex := fun c da _ S' => X c da S' } [some (.ref a), some (.tup (List.map Dv.int xs)), some (.tup (List.map Dv.int ys)), some (.int k), some (.int (0 + i)), some (.int kd), y6, some (.int m), y8] T2 := by
            intro T2 ht2
            simp only [dSeq, dAsg, dRet, dRetN, dIfS, dNext, dDrop, dRaise, dBreak, dCont, dTest, dOp, dVar, dC, dCB, dCons, dNil, dCall, dAndV, dOrV, dNotV, dAndT, dOrT, dNotT, dIf, dTup, dLst, dSl, oSome, oNone, dNeg, gN, gT, gConsD, gNilD, gSubD, dChain, dPar, dAug, dLc, dFor, dBM, isLst, iSeqD, iR1, iR2, iR3, dYes, rdAdd, rdSub, rdMul, rdDiv, rdMod, rdPow, rdIAdd, rdCmp, rdIsN, isNon, rdEqG, rdIx_tup, rdIx_rol, rdSet, rdSl, rdLen, rdInt1, rdInt, rdInt2, rdAppend, startN, wipeD, List.map_cons, List.map_nil, List.length_cons, List.length_nil, Nat.zero_add, Nat.sub_self, Nat.reduceAdd, Nat.reduceSub, List.replicate_succ, List.replicate_zero, List.cons_append, List.nil_append, List.append_nil, List.getElem?_cons_zero, List.getElem?_cons_succ, List.set_cons_zero, List.set_cons_succ, Option.some.injEq, exists_eq_left', DEnds.xd, atI_0, atI_1, atI_2, atI_3, atI_4, atI_5, atI_6, atI_7, ixN_50, ixN_51, ixN_52, ixN_53, ixN_54, ixN_30, ixN_31, ixN_32, put_same, put_put, true_and, and_true, rdIsB, isBlV, rdStrI, rdIntS, rdMulS, dDict0, dDict1, dTry, wD, decide_true, decide_false, Bool.not_true, Bool.not_false, Bool.false_eq_true, if_true, if_false]
            refine ⟨mulok_l (by decide) (by decide), _, rfl, by omega, by omega, ?_⟩
            have hf := figs_len (3 * m + kd)
            simp only [dSeq, dAsg, dRet, dRetN, dIfS, dNext, dDrop, dRaise, dBreak, dCont, dTest, dOp, dVar, dC, dCB, dCons, dNil, dCall, dAndV, dOrV, dNotV, dAndT, dOrT, dNotT, dIf, dTup, dLst, dSl, oSome, oNone, dNeg, gN, gT, gConsD, gNilD, gSubD, dChain, dPar, dAug, dLc, dFor, dBM, isLst, iSeqD, iR1, iR2, iR3, dYes, rdAdd, rdSub, rdMul, rdDiv, rdMod, rdPow, rdIAdd, rdCmp, rdIsN, isNon, rdEqG, rdIx_tup, rdIx_rol, rdSet, rdSl, rdLen, rdInt1, rdInt, rdInt2, rdAppend, startN, wipeD, List.map_cons, List.map_nil, List.length_cons, List.length_nil, Nat.zero_add, Nat.sub_self, Nat.reduceAdd, Nat.reduceSub, List.replicate_succ, List.replicate_zero, List.cons_append, List.nil_append, List.append_nil, List.getElem?_cons_zero, List.getElem?_cons_succ, List.set_cons_zero, List.set_cons_succ, Option.some.injEq, exists_eq_left', DEnds.xd, atI_0, atI_1, atI_2, atI_3, atI_4, atI_5, atI_6, atI_7, ixN_50, ixN_51, ixN_52, ixN_53, ixN_54, ixN_30, ixN_31, ixN_32, put_same, put_put, true_and, and_true, rdIsB, isBlV, rdStrI, rdIntS, rdMulS, dDict0, dDict1, dTry, wD, decide_true, decide_false, Bool.not_true, Bool.not_false, Bool.false_eq_true, if_true, if_false]
            rw [← List.map_append]
            refine ⟨?_, hN _ _ ⟨ht2, _, more _ (by omega) (figs_by (by omega) (by omega)), rfl⟩⟩
            simp only [List.length_map]
            rw [sizeLine_eq]
            omega
          simp only [dIfS, dTest, dOp, dVar, dC, dCB, dCons, dNil, dCall, dAndV, dOrV, dNotV, dAndT, dOrT, dNotT, dIf, dTup, dLst, dSl, oSome, oNone, dNeg, gN, gT, gConsD, gNilD, gSubD, dChain, dLc, dBM, isLst, iSeqD, iR1, iR2, iR3, dYes, rdAdd, rdSub, rdMul, rdDiv, rdMod, rdPow, rdIAdd, rdCmp, rdIsN, isNon, rdEqG, rdIx_tup, rdIx_rol, rdSet, rdSl, rdLen, rdInt1, rdInt, rdInt2, rdAppend, startN, wipeD, List.map_cons, List.map_nil, List.length_cons, List.length_nil, Nat.zero_add, Nat.sub_self, Nat.reduceAdd, Nat.reduceSub, List.replicate_succ, List.replicate_zero, List.cons_append, List.nil_append, List.append_nil, List.getElem?_cons_zero, List.getElem?_cons_succ, List.set_cons_zero, List.set_cons_succ, Option.some.injEq, exists_eq_left', DEnds.xd, atI_0, atI_1, atI_2, atI_3, atI_4, atI_5, atI_6, atI_7, ixN_50, ixN_51, ixN_52, ixN_53, ixN_54, ixN_30, ixN_31, ixN_32, put_same, put_put, true_and, and_true, rdIsB, isBlV, rdStrI, rdIntS, rdMulS, dDict0, dDict1, decide_true, decide_false, Bool.not_true, Bool.not_false, Bool.false_eq_true, if_true, if_false]
          by_cases hm : 0 < m
          · rw [if_pos (decide_eq_true hm)]
            exact put _ ht
          · rw [if_neg (by rw [decide_eq_false hm]; decide)]
            refine ⟨a, c, _, rfl, ht.h, by decide, abs10 (n := 20) (by decide) (by decide), fun r2 T2 ht2 g1 g2 => ?_⟩
            simp only [dIfS, dTest, dOp, dVar, dC, dCB, dCons, dNil, dCall, dAndV, dOrV, dNotV, dAndT, dOrT, dNotT, dIf, dTup, dLst, dSl, oSome, oNone, dNeg, gN, gT, gConsD, gNilD, gSubD, dChain, dLc, dBM, isLst, iSeqD, iR1, iR2, iR3, dYes, rdAdd, rdSub, rdMul, rdDiv, rdMod, rdPow, rdIAdd, rdCmp, rdIsN, isNon, rdEqG, rdIx_tup, rdIx_rol, rdSet, rdSl, rdLen, rdInt1, rdInt, rdInt2, rdAppend, startN, wipeD, List.map_cons, List.map_nil, List.length_cons, List.length_nil, Nat.zero_add, Nat.sub_self, Nat.reduceAdd, Nat.reduceSub, List.replicate_succ, List.replicate_zero, List.cons_append, List.nil_append, List.append_nil, List.getElem?_cons_zero, List.getElem?_cons_succ, List.set_cons_zero, List.set_cons_succ, Option.some.injEq, exists_eq_left', DEnds.xd, atI_0, atI_1, atI_2, atI_3, atI_4, atI_5, atI_6, atI_7, ixN_50, ixN_51, ixN_52, ixN_53, ixN_54, ixN_30, ixN_31, ixN_32, put_same, put_put, true_and, and_true, rdIsB, isBlV, rdStrI, rdIntS, rdMulS, dDict0, dDict1, decide_true, decide_false, Bool.not_true, Bool.not_false, Bool.false_eq_true, if_true, if_false]
            split
            · exact put _ (ht.trans ht2)
            · exact hN _ _ ⟨ht.trans ht2, ys, ⟨by omega, hy.2⟩, rfl⟩
        clear ht
        obtain ⟨ht, zs, hz, rfl⟩ := hM
        simp only [dSeq, dAsg, dRet, dRetN, dIfS, dNext, dDrop, dRaise, dBreak, dCont, dTest, dOp, dVar, dC, dCB, dCons, dNil, dCall, dAndV, dOrV, dNotV, dAndT, dOrT, dNotT, dIf, dTup, dLst, dSl, oSome, oNone, dNeg, gN, gT, gConsD, gNilD, gSubD, dChain, dPar, dAug, dLc, dFor, dBM, isLst, iSeqD, iR1, iR2, iR3, dYes, rdAdd, rdSub, rdMul, rdDiv, rdMod, rdPow, rdIAdd, rdCmp, rdIsN, isNon, rdEqG, rdIx_tup, rdIx_rol, rdSet, rdSl, rdLen, rdInt1, rdInt, rdInt2, rdAppend, startN, wipeD, List.map_cons, List.map_nil, List.length_cons, List.length_nil, Nat.zero_add, Nat.sub_self, Nat.reduceAdd, Nat.reduceSub, List.replicate_succ, List.replicate_zero, List.cons_append, List.nil_append, List.append_nil, List.getElem?_cons_zero, List.getElem?_cons_succ, List.set_cons_zero, List.set_cons_succ, Option.some.injEq, exists_eq_left', DEnds.xd, atI_0, atI_1, atI_2, atI_3, atI_4, atI_5, atI_6, atI_7, ixN_50, ixN_51, ixN_52, ixN_53, ixN_54, ixN_30, ixN_31, ixN_32, put_same, put_put, true_and, and_true, rdIsB, isBlV, rdStrI, rdIntS, rdMulS, dDict0, dDict1, dTry, wD, decide_true, decide_false, Bool.not_true, Bool.not_false, Bool.false_eq_true, if_true, if_false]
        rw [List.length_map]
        refine ⟨ht, zs, _, _, _, _, _, _, hz, ?_, ?_, rfl⟩ <;> split <;> omega
    · obtain ⟨ht, ys, k, y4, y5, y6, y7, y8, hy, hk0, hk1, rfl⟩ := hw
      rw [rangeL_len] at hy
      exact hN _ _ ⟨ht, ys, _, _, _, _, _, _, ⟨by have := hy.1; omega, hy.2⟩, rfl⟩
  obtain ⟨ht, ys, y3, y4, y5, y6, y7, y8, hy, rfl⟩ := hM
  simp only [dSeq, dAsg, dRet, dRetN, dIfS, dNext, dDrop, dRaise, dBreak, dCont, dTest, dOp, dVar, dC, dCB, dCons, dNil, dCall, dAndV, dOrV, dNotV, dAndT, dOrT, dNotT, dIf, dTup, dLst, dSl, oSome, oNone, dNeg, gN, gT, gConsD, gNilD, gSubD, dChain, dPar, dAug, dLc, dFor, dBM, isLst, iSeqD, iR1, iR2, iR3, dYes, rdAdd, rdSub, rdMul, rdDiv, rdMod, rdPow, rdIAdd, rdCmp, rdIsN, isNon, rdEqG, rdIx, rdSet, rdSl, rdLen, rdInt1, rdInt, rdInt2, rdAppend, startN, wipeD, List.map_cons, List.map_nil, List.length_cons, List.length_nil, Nat.zero_add, Nat.sub_self, Nat.reduceAdd, Nat.reduceSub, List.replicate_succ, List.replicate_zero, List.cons_append, List.nil_append, List.append_nil, List.getElem?_cons_zero, List.getElem?_cons_succ, List.set_cons_zero, List.set_cons_succ, Option.some.injEq, exists_eq_left', DEnds.xd, atI_0, atI_1, atI_2, atI_3, atI_4, atI_5, atI_6, atI_7, ixN_50, ixN_51, ixN_52, ixN_53, ixN_54, ixN_30, ixN_31, ixN_32, put_same, put_put, true_and, and_true]
  exact h _ _ ht hy
end Lw

namespace Lw
open PySem PySem.Spec PyProof.Rows L2 VD
theorem resF_by : ∀ (k : Nat) (one ch found : List Int) (here i : Nat) (l : List Int), By one → By ch → By found → (resF k one ch found here i).1 = some l → By l
  | 0, _, _, _, _, _, _, _, _, _, h => by cases h
  | k + 1, one, ch, found, here, i, l, h1, h2, h3, h => by
    rw [resF] at h
    split at h
    · cases h; exact h3
    · cases hp : partO ch i with
      | none => rw [hp] at h; cases h
      | some p =>
        obtain ⟨kind, many, b⟩ := p
        rw [hp] at h
        dsimp only at h
        split at h
        · exact resF_by k one ch _ _ _ l h1 h2 (By.app h3 (By.take (By.drop h2))) h
        · split at h
          · cases h
          · refine resF_by k one ch _ _ _ l h1 h2 ?_ h
            split
            · exact By.app h3 (By.take (By.drop h1))
            · exact h3
theorem res_by {xs ys l : List Int} (h1 : By xs) (h2 : By ys) (h : (res xs ys).1 = some l) : By l := resF_by _ xs ys [] 0 0 l h1 h2 (fun _ hm => by cases hm) h
theorem rd_law (c1 c2 c3 : Addr) : Rd (r_law c1 c2 c3) 9 spLaw := by
  rintro ds S Q X ⟨script, rfl, hl, rfl, h⟩
  unfold r_law
  refine cut_seq (fun ρ T => ∃ a c, Hand T a c ∧ ρ = [some (.rol (List.map Dv.int script)), some (.ref a), none, none, none, none, none, none, none]) (fun N hN => ?_) (fun ρ T hM => ?_)
  · simp only [dSeq, dAsg, dRet, dRetN, dIfS, dNext, dDrop, dRaise, dBreak, dCont, dTest, dOp, dVar, dC, dCB, dCons, dNil, dCall, dAndV, dOrV, dNotV, dAndT, dOrT, dNotT, dIf, dTup, dLst, dSl, oSome, oNone, dNeg, gN, gT, gConsD, gNilD, gSubD, dChain, dPar, dAug, dLc, dFor, dBM, isLst, iSeqD, iR1, iR2, iR3, dYes, rdAdd, rdSub, rdMul, rdDiv, rdMod, rdPow, rdIAdd, rdCmp, rdIsN, isNon, rdEqG, rdIx_tup, rdIx_rol, rdSet, rdSl, rdLen, rdInt1, rdInt, rdInt2, rdAppend, startN, wipeD, List.map_cons, List.map_nil, List.length_cons, List.length_nil, Nat.zero_add, Nat.sub_self, Nat.reduceAdd, Nat.reduceSub, List.replicate_succ, List.replicate_zero, List.cons_append, List.nil_append, List.append_nil, List.getElem?_cons_zero, List.getElem?_cons_succ, List.set_cons_zero, List.set_cons_succ, Option.some.injEq, exists_eq_left', DEnds.xd, atI_0, atI_1, atI_2, atI_3, atI_4, atI_5, atI_6, atI_7, ixN_50, ixN_51, ixN_52, ixN_53, ixN_54, ixN_30, ixN_31, ixN_32, put_same, put_put, true_and, and_true, rdIsB, isBlV, rdStrI, rdIntS, rdMulS, dDict0, dDict1, dTry, wD, decide_true, decide_false, Bool.not_true, Bool.not_false, Bool.false_eq_true, if_true, if_false]
    exact ⟨script, rfl, hl, fun a c T hH => hN _ _ ⟨a, c, hH, rfl⟩⟩
  obtain ⟨a, c, hH, rfl⟩ := hM
  refine cut_seq (fun ρ T => Hand T a c ∧ ∃ w : Int, 0 ≤ w ∧ w < 5 ∧ ρ = [some (.rol (List.map Dv.int script)), some (.ref a), some (.int w), none, none, none, none, none, none]) (fun N hN => ?_) (fun ρ T hM => ?_)
  · simp only [dSeq, dAsg, dRet, dRetN, dIfS, dNext, dDrop, dRaise, dBreak, dCont, dTest, dOp, dVar, dC, dCB, dCons, dNil, dCall, dAndV, dOrV, dNotV, dAndT, dOrT, dNotT, dIf, dTup, dLst, dSl, oSome, oNone, dNeg, gN, gT, gConsD, gNilD, gSubD, dChain, dPar, dAug, dLc, dFor, dBM, isLst, iSeqD, iR1, iR2, iR3, dYes, rdAdd, rdSub, rdMul, rdDiv, rdMod, rdPow, rdIAdd, rdCmp, rdIsN, isNon, rdEqG, rdIx_tup, rdIx_rol, rdSet, rdSl, rdLen, rdInt1, rdInt, rdInt2, rdAppend, startN, wipeD, List.map_cons, List.map_nil, List.length_cons, List.length_nil, Nat.zero_add, Nat.sub_self, Nat.reduceAdd, Nat.reduceSub, List.replicate_succ, List.replicate_zero, List.cons_append, List.nil_append, List.append_nil, List.getElem?_cons_zero, List.getElem?_cons_succ, List.set_cons_zero, List.set_cons_succ, Option.some.injEq, exists_eq_left', DEnds.xd, atI_0, atI_1, atI_2, atI_3, atI_4, atI_5, atI_6, atI_7, ixN_50, ixN_51, ixN_52, ixN_53, ixN_54, ixN_30, ixN_31, ixN_32, put_same, put_put, true_and, and_true, rdIsB, isBlV, rdStrI, rdIntS, rdMulS, dDict0, dDict1, dTry, wD, decide_true, decide_false, Bool.not_true, Bool.not_false, Bool.false_eq_true, if_true, if_false]
    exact ⟨a, c, _, rfl, hH, by decide, abs10 (n := 20) (by decide) (by decide), fun r T2 ht2 g1 g2 => hN _ _ ⟨ht2.h, r, g1, g2, rfl⟩⟩
  clear hH
  obtain ⟨hH, w, hw0, hw5, rfl⟩ := hM
  refine cut_seq (fun ρ T => Hand T a c ∧ ∃ xs : List Int, okR 240 xs ∧ ρ = [some (.rol (List.map Dv.int script)), some (.ref a), some (.int w), some (.tup (List.map Dv.int xs)), none, none, none, none, none]) (fun N hN => ?_) (fun ρ T hM => ?_)
  · simp only [dSeq, dAsg, dRet, dRetN, dIfS, dNext, dDrop, dRaise, dBreak, dCont, dTest, dOp, dVar, dC, dCB, dCons, dNil, dCall, dAndV, dOrV, dNotV, dAndT, dOrT, dNotT, dIf, dTup, dLst, dSl, oSome, oNone, dNeg, gN, gT, gConsD, gNilD, gSubD, dChain, dPar, dAug, dLc, dFor, dBM, isLst, iSeqD, iR1, iR2, iR3, dYes, rdAdd, rdSub, rdMul, rdDiv, rdMod, rdPow, rdIAdd, rdCmp, rdIsN, isNon, rdEqG, rdIx_tup, rdIx_rol, rdSet, rdSl, rdLen, rdInt1, rdInt, rdInt2, rdAppend, startN, wipeD, List.map_cons, List.map_nil, List.length_cons, List.length_nil, Nat.zero_add, Nat.sub_self, Nat.reduceAdd, Nat.reduceSub, List.replicate_succ, List.replicate_zero, List.cons_append, List.nil_append, List.append_nil, List.getElem?_cons_zero, List.getElem?_cons_succ, List.set_cons_zero, List.set_cons_succ, Option.some.injEq, exists_eq_left', DEnds.xd, atI_0, atI_1, atI_2, atI_3, atI_4, atI_5, atI_6, atI_7, ixN_50, ixN_51, ixN_52, ixN_53, ixN_54, ixN_30, ixN_31, ixN_32, put_same, put_put, true_and, and_true, rdIsB, isBlV, rdStrI, rdIntS, rdMulS, dDict0, dDict1, dTry, wD, decide_true, decide_false, Bool.not_true, Bool.not_false, Bool.false_eq_true, if_true, if_false]
    refine ⟨a, c, _, rfl, hH, by decide, by decide, fun ns T2 ht2 hns hnl => ?_⟩
    simp only [dSeq, dAsg, dRet, dRetN, dIfS, dNext, dDrop, dRaise, dBreak, dCont, dTest, dOp, dVar, dC, dCB, dCons, dNil, dCall, dAndV, dOrV, dNotV, dAndT, dOrT, dNotT, dIf, dTup, dLst, dSl, oSome, oNone, dNeg, gN, gT, gConsD, gNilD, gSubD, dChain, dPar, dAug, dLc, dFor, dBM, isLst, iSeqD, iR1, iR2, iR3, dYes, rdAdd, rdSub, rdMul, rdDiv, rdMod, rdPow, rdIAdd, rdCmp, rdIsN, isNon, rdEqG, rdIx_tup, rdIx_rol, rdSet, rdSl, rdLen, rdInt1, rdInt, rdInt2, rdAppend, startN, wipeD, List.map_cons, List.map_nil, List.length_cons, List.length_nil, Nat.zero_add, Nat.sub_self, Nat.reduceAdd, Nat.reduceSub, List.replicate_succ, List.replicate_zero, List.cons_append, List.nil_append, List.append_nil, List.getElem?_cons_zero, List.getElem?_cons_succ, List.set_cons_zero, List.set_cons_succ, Option.some.injEq, exists_eq_left', DEnds.xd, atI_0, atI_1, atI_2, atI_3, atI_4, atI_5, atI_6, atI_7, ixN_50, ixN_51, ixN_52, ixN_53, ixN_54, ixN_30, ixN_31, ixN_32, put_same, put_put, true_and, and_true, rdIsB, isBlV, rdStrI, rdIntS, rdMulS, dDict0, dDict1, dTry, wD, decide_true, decide_false, Bool.not_true, Bool.not_false, Bool.false_eq_true, if_true, if_false]
    refine ⟨by rw [sizeLine_eq]; decide, fun p hp => ⟨a, c, _, rfl, ht2.h.new hp, by decide, abs10 (n := 20) (by decide) (by decide), fun r T3 ht3 g1 g2 => ?_⟩⟩
    obtain ⟨k, hk, hk0, hk1⟩ : ∃ k, atI [Dv.int 1, .int 2, .int 8] r = some (.int k) ∧ 1 ≤ k ∧ k ≤ 8 := by
      have : r = 0 ∨ r = 1 ∨ r = 2 := by omega
      rcases this with rfl | rfl | rfl <;> exact ⟨_, rfl, by decide, by decide⟩
    refine ix_ref (ht3.s p _ (ht2.h.nea hp) put_same) hk ?_
    simp only [dSeq, dAsg, dRet, dRetN, dIfS, dNext, dDrop, dRaise, dBreak, dCont, dTest, dOp, dVar, dC, dCB, dCons, dNil, dCall, dAndV, dOrV, dNotV, dAndT, dOrT, dNotT, dIf, dTup, dLst, dSl, oSome, oNone, dNeg, gN, gT, gConsD, gNilD, gSubD, dChain, dPar, dAug, dLc, dFor, dBM, isLst, iSeqD, iR1, iR2, iR3, dYes, rdAdd, rdSub, rdMul, rdDiv, rdMod, rdPow, rdIAdd, rdCmp, rdIsN, isNon, rdEqG, rdIx_tup, rdIx_rol, rdSet, rdSl, rdLen, rdInt1, rdInt, rdInt2, rdAppend, startN, wipeD, List.map_cons, List.map_nil, List.length_cons, List.length_nil, Nat.zero_add, Nat.sub_self, Nat.reduceAdd, Nat.reduceSub, List.replicate_succ, List.replicate_zero, List.cons_append, List.nil_append, List.append_nil, List.getElem?_cons_zero, List.getElem?_cons_succ, List.set_cons_zero, List.set_cons_succ, Option.some.injEq, exists_eq_left', DEnds.xd, atI_0, atI_1, atI_2, atI_3, atI_4, atI_5, atI_6, atI_7, ixN_50, ixN_51, ixN_52, ixN_53, ixN_54, ixN_30, ixN_31, ixN_32, put_same, put_put, true_and, and_true, rdIsB, isBlV, rdStrI, rdIntS, rdMulS, dDict0, dDict1, dTry, wD, decide_true, decide_false, Bool.not_true, Bool.not_false, Bool.false_eq_true, if_true, if_false]
    refine ⟨⟨hk0, by omega, by rw [List.length_map]; omega⟩, ?_⟩
    have e : (List.replicate k.toNat (List.map Dv.int ns)).flatten = List.map Dv.int ((List.replicate k.toNat ns).flatten) := by
      rw [List.map_flatten, List.map_replicate]
    rw [e]
    refine hN _ _ ⟨ht3.h, _, ⟨?_, fun z hz => ?_⟩, rfl⟩
    · rw [List.length_flatten, List.map_replicate, List.sum_replicate_nat]
      exact Nat.le_trans (Nat.mul_le_mul (by omega : k.toNat ≤ 8) (by omega : ns.length ≤ 30)) (by decide)
    · obtain ⟨l, hl1, hl3⟩ := List.mem_flatten.mp hz
      rw [(List.mem_replicate.mp hl1).2] at hl3
      exact hns z hl3
  clear hH
  obtain ⟨hH, xs, hx, rfl⟩ := hM
  refine cut_seq (fun ρ T => Hand T a c ∧ ∃ ys : List Int, okR 300 ys ∧ ρ = [some (.rol (List.map Dv.int script)), some (.ref a), some (.int w), some (.tup (List.map Dv.int xs)), some (.tup (List.map Dv.int ys)), none, none, none, none]) (fun N hN => ?_) (fun ρ T hM => ?_)
  · simp only [dSeq, dAsg, dRet, dRetN, dIfS, dNext, dDrop, dRaise, dBreak, dCont, dTest, dOp, dVar, dC, dCB, dCons, dNil, dCall, dAndV, dOrV, dNotV, dAndT, dOrT, dNotT, dIf, dTup, dLst, dSl, oSome, oNone, dNeg, gN, gT, gConsD, gNilD, gSubD, dChain, dPar, dAug, dLc, dFor, dBM, isLst, iSeqD, iR1, iR2, iR3, dYes, rdAdd, rdSub, rdMul, rdDiv, rdMod, rdPow, rdIAdd, rdCmp, rdIsN, isNon, rdEqG, rdIx_tup, rdIx_rol, rdSet, rdSl, rdLen, rdInt1, rdInt, rdInt2, rdAppend, startN, wipeD, List.map_cons, List.map_nil, List.length_cons, List.length_nil, Nat.zero_add, Nat.sub_self, Nat.reduceAdd, Nat.reduceSub, List.replicate_succ, List.replicate_zero, List.cons_append, List.nil_append, List.append_nil, List.getElem?_cons_zero, List.getElem?_cons_succ, List.set_cons_zero, List.set_cons_succ, Option.some.injEq, exists_eq_left', DEnds.xd, atI_0, atI_1, atI_2, atI_3, atI_4, atI_5, atI_6, atI_7, ixN_50, ixN_51, ixN_52, ixN_53, ixN_54, ixN_30, ixN_31, ixN_32, put_same, put_put, true_and, and_true, rdIsB, isBlV, rdStrI, rdIntS, rdMulS, dDict0, dDict1, dTry, wD, decide_true, decide_false, Bool.not_true, Bool.not_false, Bool.false_eq_true, if_true, if_false]
    refine ⟨a, c, xs, rfl, hH, hx, fun y1 T1 ht1 hy1 => ⟨a, c, xs, rfl, ht1.h, hx, fun y2 T2 ht2 hy2 => ⟨a, c, _, rfl, ht2.h, by decide, by decide, fun ns T3 ht3 hns hnl => ?_⟩⟩⟩
    refine ⟨Nat.zero_le _, by rw [sizeLine_eq]; decide, fun p hp => ?_⟩
    have hh := ht3.h.new (m := .lst [.tup (List.map Dv.int y1), .tup (List.map Dv.int y2), .tup (List.map Dv.int ns), .tup (List.map Dv.int xs), .tup []]) hp
    have : w = 0 ∨ w = 1 ∨ w = 2 ∨ w = 3 ∨ w = 4 := by omega
    rcases this with rfl | rfl | rfl | rfl | rfl
    · exact ix_ref put_same rfl (hN _ _ ⟨hh, y1, hy1, rfl⟩)
    · exact ix_ref put_same rfl (hN _ _ ⟨hh, y2, hy2, rfl⟩)
    · exact ix_ref put_same rfl (hN _ _ ⟨hh, ns, ⟨by omega, hns⟩, rfl⟩)
    · exact ix_ref put_same rfl (hN _ _ ⟨hh, xs, ⟨by have := hx.1; omega, hx.2⟩, rfl⟩)
    · exact ix_ref put_same rfl (hN _ _ ⟨hh, [], ⟨by simp, fun _ hm => by cases hm⟩, rfl⟩)
  clear hH
  obtain ⟨hH, ys, hy, rfl⟩ := hM
  have hx3 : okR 300 xs := ⟨by have := hx.1; omega, hx.2⟩
  refine cut_seq (fun ρ T => Hand T a c ∧ ρ = [some (.rol (List.map Dv.int script)), some (.ref a), some (.int w), some (.tup (List.map Dv.int xs)), some (.tup (List.map Dv.int ys)), none, none, none, none]) (fun N hN => ?_) (fun ρ T hM => ?_)
  · simp only [dSeq, dAsg, dRet, dRetN, dIfS, dNext, dDrop, dRaise, dBreak, dCont, dTest, dOp, dVar, dC, dCB, dCons, dNil, dCall, dAndV, dOrV, dNotV, dAndT, dOrT, dNotT, dIf, dTup, dLst, dSl, oSome, oNone, dNeg, gN, gT, gConsD, gNilD, gSubD, dChain, dPar, dAug, dLc, dFor, dBM, isLst, iSeqD, iR1, iR2, iR3, dYes, rdAdd, rdSub, rdMul, rdDiv, rdMod, rdPow, rdIAdd, rdCmp, rdIsN, isNon, rdEqG, rdIx_tup, rdIx_rol, rdSet, rdSl, rdLen, rdInt1, rdInt, rdInt2, rdAppend, startN, wipeD, List.map_cons, List.map_nil, List.length_cons, List.length_nil, Nat.zero_add, Nat.sub_self, Nat.reduceAdd, Nat.reduceSub, List.replicate_succ, List.replicate_zero, List.cons_append, List.nil_append, List.append_nil, List.getElem?_cons_zero, List.getElem?_cons_succ, List.set_cons_zero, List.set_cons_succ, Option.some.injEq, exists_eq_left', DEnds.xd, atI_0, atI_1, atI_2, atI_3, atI_4, atI_5, atI_6, atI_7, ixN_50, ixN_51, ixN_52, ixN_53, ixN_54, ixN_30, ixN_31, ixN_32, put_same, put_put, true_and, and_true, rdIsB, isBlV, rdStrI, rdIntS, rdMulS, dDict0, dDict1, dTry, wD, decide_true, decide_false, Bool.not_true, Bool.not_false, Bool.false_eq_true, if_true, if_false]
    refine ⟨xs, ys, rfl, hx3, hy, fun S1 s1 => iteF ⟨ys, xs, rfl, hy, hx3, fun S2 s2 => iteF ⟨xs, xs, rfl, hx3, hx3, fun S3 s3 => iteF (hN _ _ ⟨?_, rfl⟩)⟩⟩⟩
    exact (hd_sub hH (Sub.tr (Sub.tr s1 s2) s3)).h
  clear hH
  obtain ⟨hH, rfl⟩ := hM
  have hxs := hx3.sr
  have hys := hy.sr
  have hl1 := hx3.1
  have hl2 := hy.1
  have hr1 := res_chg (xs := xs) (ys := ys) (by omega) (by omega)
  have hr2 := res_chg (xs := ys) (ys := xs) (by omega) (by omega)
  have hz1 : okR 1000 (chgF xs ys) := ⟨by have := chg_len (xs := xs) (ys := ys) (by omega) (by omega); omega, chg_by (by omega) hys⟩
  have hz2 : okR 1000 (chgF ys xs) := ⟨by have := chg_len (xs := ys) (ys := xs) (by omega) (by omega); omega, chg_by (by omega) hxs⟩
  have ch_q : ∀ (us vs ws : List Int) (T : Sto) (K : QD) (X : XD), sr us → sr vs → (res us vs).1 = some ws → (∀ S', VD.Sub T S' → K (.tup (List.map Dv.int ws)) S') → sp_changed c2 c3 [.tup (List.map Dv.int us), .tup (List.map Dv.int vs)] T K X := by
    intro us vs ws T K X g1 g2 g3 g4
    refine ⟨us, vs, ⟨rfl, g1, g2⟩, ?_⟩
    cases er : res us vs with
    | mk r p =>
      rw [er] at g3
      dsimp only at g3
      subst g3
      exact g4
  refine cut_seq (fun ρ T => Hand T a c ∧ ρ = [some (.rol (List.map Dv.int script)), some (.ref a), some (.int w), some (.tup (List.map Dv.int xs)), some (.tup (List.map Dv.int ys)), none, none, none, none]) (fun N hN => ?_) (fun ρ T hM => ?_)
  · simp only [dSeq, dAsg, dRet, dRetN, dIfS, dNext, dDrop, dRaise, dBreak, dCont, dTest, dOp, dVar, dC, dCB, dCons, dNil, dCall, dAndV, dOrV, dNotV, dAndT, dOrT, dNotT, dIf, dTup, dLst, dSl, oSome, oNone, dNeg, gN, gT, gConsD, gNilD, gSubD, dChain, dPar, dAug, dLc, dFor, dBM, isLst, iSeqD, iR1, iR2, iR3, dYes, rdAdd, rdSub, rdMul, rdDiv, rdMod, rdPow, rdIAdd, rdCmp, rdIsN, isNon, rdEqG, rdIx_tup, rdIx_rol, rdSet, rdSl, rdLen, rdInt1, rdInt, rdInt2, rdAppend, startN, wipeD, List.map_cons, List.map_nil, List.length_cons, List.length_nil, Nat.zero_add, Nat.sub_self, Nat.reduceAdd, Nat.reduceSub, List.replicate_succ, List.replicate_zero, List.cons_append, List.nil_append, List.append_nil, List.getElem?_cons_zero, List.getElem?_cons_succ, List.set_cons_zero, List.set_cons_succ, Option.some.injEq, exists_eq_left', DEnds.xd, atI_0, atI_1, atI_2, atI_3, atI_4, atI_5, atI_6, atI_7, ixN_50, ixN_51, ixN_52, ixN_53, ixN_54, ixN_30, ixN_31, ixN_32, put_same, put_put, true_and, and_true, rdIsB, isBlV, rdStrI, rdIntS, rdMulS, dDict0, dDict1, dTry, wD, decide_true, decide_false, Bool.not_true, Bool.not_false, Bool.false_eq_true, if_true, if_false]
    refine ⟨xs, ys, ⟨rfl, hxs, hys⟩, ch_q _ _ _ _ _ _ hxs hz1.sr hr1 fun S1 s1 => ⟨ys, xs, ⟨rfl, hys, hxs⟩, ch_q _ _ _ _ _ _ hys hz2.sr hr2 fun S2 s2 => is_q (plain_ints (by omega) 2) (iteF (hN _ _ ⟨(hd_sub hH (Sub.tr s1 s2)).h, rfl⟩))⟩⟩
  clear hH
  obtain ⟨hH, rfl⟩ := hM
  refine cut_seq (fun ρ T => Hand T a c ∧ ∃ zs : List Int, okR 1000 zs ∧ ρ = [some (.rol (List.map Dv.int script)), some (.ref a), some (.int w), some (.tup (List.map Dv.int xs)), some (.tup (List.map Dv.int ys)), some (.tup (List.map Dv.int zs)), none, none, none]) (fun N hN => ?_) (fun ρ T hM => ?_)
  · simp only [dSeq, dAsg, dRet, dRetN, dIfS, dNext, dDrop, dRaise, dBreak, dCont, dTest, dOp, dVar, dC, dCB, dCons, dNil, dCall, dAndV, dOrV, dNotV, dAndT, dOrT, dNotT, dIf, dTup, dLst, dSl, oSome, oNone, dNeg, gN, gT, gConsD, gNilD, gSubD, dChain, dPar, dAug, dLc, dFor, dBM, isLst, iSeqD, iR1, iR2, iR3, dYes, rdAdd, rdSub, rdMul, rdDiv, rdMod, rdPow, rdIAdd, rdCmp, rdIsN, isNon, rdEqG, rdIx_tup, rdIx_rol, rdSet, rdSl, rdLen, rdInt1, rdInt, rdInt2, rdAppend, startN, wipeD, List.map_cons, List.map_nil, List.length_cons, List.length_nil, Nat.zero_add, Nat.sub_self, Nat.reduceAdd, Nat.reduceSub, List.replicate_succ, List.replicate_zero, List.cons_append, List.nil_append, List.append_nil, List.getElem?_cons_zero, List.getElem?_cons_succ, List.set_cons_zero, List.set_cons_succ, Option.some.injEq, exists_eq_left', DEnds.xd, atI_0, atI_1, atI_2, atI_3, atI_4, atI_5, atI_6, atI_7, ixN_50, ixN_51, ixN_52, ixN_53, ixN_54, ixN_30, ixN_31, ixN_32, put_same, put_put, true_and, and_true, rdIsB, isBlV, rdStrI, rdIntS, rdMulS, dDict0, dDict1, dTry, wD, decide_true, decide_false, Bool.not_true, Bool.not_false, Bool.false_eq_true, if_true, if_false]
    exact ⟨a, c, xs, rfl, hH, hx3, fun zs T2 ht2 hz => hN _ _ ⟨ht2.h, zs, hz, rfl⟩⟩
  clear hH
  obtain ⟨hH, zs, hz, rfl⟩ := hM
  refine cut_seq (fun ρ T => Hand T a c ∧ ρ = [some (.rol (List.map Dv.int script)), some (.ref a), some (.int w), some (.tup (List.map Dv.int xs)), some (.tup (List.map Dv.int ys)), some (.tup (List.map Dv.int zs)), none, none, none]) (fun N hN => ?_) (fun ρ T hM => ?_)
  · simp only [dSeq, dAsg, dRet, dRetN, dIfS, dNext, dDrop, dRaise, dBreak, dCont, dTest, dOp, dVar, dC, dCB, dCons, dNil, dCall, dAndV, dOrV, dNotV, dAndT, dOrT, dNotT, dIf, dTup, dLst, dSl, oSome, oNone, dNeg, gN, gT, gConsD, gNilD, gSubD, dChain, dPar, dAug, dLc, dFor, dBM, isLst, iSeqD, iR1, iR2, iR3, dYes, rdAdd, rdSub, rdMul, rdDiv, rdMod, rdPow, rdIAdd, rdCmp, rdIsN, isNon, rdEqG, rdIx_tup, rdIx_rol, rdSet, rdSl, rdLen, rdInt1, rdInt, rdInt2, rdAppend, startN, wipeD, List.map_cons, List.map_nil, List.length_cons, List.length_nil, Nat.zero_add, Nat.sub_self, Nat.reduceAdd, Nat.reduceSub, List.replicate_succ, List.replicate_zero, List.cons_append, List.nil_append, List.append_nil, List.getElem?_cons_zero, List.getElem?_cons_succ, List.set_cons_zero, List.set_cons_succ, Option.some.injEq, exists_eq_left', DEnds.xd, atI_0, atI_1, atI_2, atI_3, atI_4, atI_5, atI_6, atI_7, ixN_50, ixN_51, ixN_52, ixN_53, ixN_54, ixN_30, ixN_31, ixN_32, put_same, put_put, true_and, and_true, rdIsB, isBlV, rdStrI, rdIntS, rdMulS, dDict0, dDict1, dTry, wD, decide_true, decide_false, Bool.not_true, Bool.not_false, Bool.false_eq_true, if_true, if_false]
    exact ⟨xs, ys, zs, rfl, hxs, hys, hz.sr, fun S1 s1 => iteF (hN _ _ ⟨(hd_sub hH s1).h, rfl⟩)⟩
  clear hH
  obtain ⟨hH, rfl⟩ := hM
  have told_q : ∀ (vs ws : List Int) (T : Sto) (K : QD) (X : XD), sr vs → sr ws → (∀ S', VD.Sub T S' → K (.bl true) S') → sp__law_is_told c1 c2 c3 [.tup (List.map Dv.int xs), .tup (List.map Dv.int vs), .tup (List.map Dv.int ws)] T K X :=
    fun vs ws T K X g1 g2 g3 => ⟨xs, vs, ws, rfl, hxs, g1, g2, g3⟩
  have hzl := hz.1
  refine cut_seq (fun ρ T => Hand T a c ∧ ∃ d, (d = .non ∨ ∃ l, d = .tup (List.map Dv.int l) ∧ sr l) ∧ ρ = [some (.rol (List.map Dv.int script)), some (.ref a), some (.int w), some (.tup (List.map Dv.int xs)), some (.tup (List.map Dv.int ys)), some (.tup (List.map Dv.int zs)), some d, none, none]) (fun N hN => ?_) (fun ρ T hM => ?_)
  · simp only [dSeq, dAsg, dRet, dRetN, dIfS, dNext, dDrop, dRaise, dBreak, dCont, dTest, dOp, dVar, dC, dCB, dCons, dNil, dCall, dAndV, dOrV, dNotV, dAndT, dOrT, dNotT, dIf, dTup, dLst, dSl, oSome, oNone, dNeg, gN, gT, gConsD, gNilD, gSubD, dChain, dPar, dAug, dLc, dFor, dBM, isLst, iSeqD, iR1, iR2, iR3, dYes, rdAdd, rdSub, rdMul, rdDiv, rdMod, rdPow, rdIAdd, rdCmp, rdIsN, isNon, rdEqG, rdIx_tup, rdIx_rol, rdSet, rdSl, rdLen, rdInt1, rdInt, rdInt2, rdAppend, startN, wipeD, List.map_cons, List.map_nil, List.length_cons, List.length_nil, Nat.zero_add, Nat.sub_self, Nat.reduceAdd, Nat.reduceSub, List.replicate_succ, List.replicate_zero, List.cons_append, List.nil_append, List.append_nil, List.getElem?_cons_zero, List.getElem?_cons_succ, List.set_cons_zero, List.set_cons_succ, Option.some.injEq, exists_eq_left', DEnds.xd, atI_0, atI_1, atI_2, atI_3, atI_4, atI_5, atI_6, atI_7, ixN_50, ixN_51, ixN_52, ixN_53, ixN_54, ixN_30, ixN_31, ixN_32, put_same, put_put, true_and, and_true, rdIsB, isBlV, rdStrI, rdIntS, rdMulS, dDict0, dDict1, dTry, wD, decide_true, decide_false, Bool.not_true, Bool.not_false, Bool.false_eq_true, if_true, if_false]
    refine ⟨xs, zs, ⟨rfl, hxs, hz.sr⟩, fun S1 s1 => ?_⟩
    have hh := (hd_sub hH s1).h
    cases er : res xs zs with
    | mk r p =>
      cases r with
      | none => exact ⟨_, rfl, hN _ _ ⟨hh, _, .inl rfl, rfl⟩⟩
      | some l =>
        have e1 := res_len (xs := xs) (ys := zs) (l := l) (by rw [er])
        have e2 := res_by (xs := xs) (ys := zs) (l := l) hx3.2 hz.2 (by rw [er])
        exact ⟨_, rfl, hN _ _ ⟨hh, _, .inr ⟨l, rfl, ⟨by omega, e2⟩⟩, rfl⟩⟩
  clear hH
  obtain ⟨hH, d, hd, rfl⟩ := hM
  refine cut_seq (fun ρ T => Hand T a c ∧ ∃ d, ρ = [some (.rol (List.map Dv.int script)), some (.ref a), some (.int w), some (.tup (List.map Dv.int xs)), some (.tup (List.map Dv.int ys)), some (.tup (List.map Dv.int zs)), d, none, none]) (fun N hN => ?_) (fun ρ T hM => ?_)
  · rcases hd with rfl | ⟨l, rfl, hl⟩
    · simp only [dSeq, dAsg, dRet, dRetN, dIfS, dNext, dDrop, dRaise, dBreak, dCont, dTest, dOp, dVar, dC, dCB, dCons, dNil, dCall, dAndV, dOrV, dNotV, dAndT, dOrT, dNotT, dIf, dTup, dLst, dSl, oSome, oNone, dNeg, gN, gT, gConsD, gNilD, gSubD, dChain, dPar, dAug, dLc, dFor, dBM, isLst, iSeqD, iR1, iR2, iR3, dYes, rdAdd, rdSub, rdMul, rdDiv, rdMod, rdPow, rdIAdd, rdCmp, rdIsN, isNon, rdEqG, rdIx_tup, rdIx_rol, rdSet, rdSl, rdLen, rdInt1, rdInt, rdInt2, rdAppend, startN, wipeD, List.map_cons, List.map_nil, List.length_cons, List.length_nil, Nat.zero_add, Nat.sub_self, Nat.reduceAdd, Nat.reduceSub, List.replicate_succ, List.replicate_zero, List.cons_append, List.nil_append, List.append_nil, List.getElem?_cons_zero, List.getElem?_cons_succ, List.set_cons_zero, List.set_cons_succ, Option.some.injEq, exists_eq_left', DEnds.xd, atI_0, atI_1, atI_2, atI_3, atI_4, atI_5, atI_6, atI_7, ixN_50, ixN_51, ixN_52, ixN_53, ixN_54, ixN_30, ixN_31, ixN_32, put_same, put_put, true_and, and_true, rdIsB, isBlV, rdStrI, rdIntS, rdMulS, dDict0, dDict1, dTry, wD, decide_true, decide_false, Bool.not_true, Bool.not_false, Bool.false_eq_true, if_true, if_false]
      exact hN _ _ ⟨hH, _, rfl⟩
    · simp only [dSeq, dAsg, dRet, dRetN, dIfS, dNext, dDrop, dRaise, dBreak, dCont, dTest, dOp, dVar, dC, dCB, dCons, dNil, dCall, dAndV, dOrV, dNotV, dAndT, dOrT, dNotT, dIf, dTup, dLst, dSl, oSome, oNone, dNeg, gN, gT, gConsD, gNilD, gSubD, dChain, dPar, dAug, dLc, dFor, dBM, isLst, iSeqD, iR1, iR2, iR3, dYes, rdAdd, rdSub, rdMul, rdDiv, rdMod, rdPow, rdIAdd, rdCmp, rdIsN, isNon, rdEqG, rdIx_tup, rdIx_rol, rdSet, rdSl, rdLen, rdInt1, rdInt, rdInt2, rdAppend, startN, wipeD, List.map_cons, List.map_nil, List.length_cons, List.length_nil, Nat.zero_add, Nat.sub_self, Nat.reduceAdd, Nat.reduceSub, List.replicate_succ, List.replicate_zero, List.cons_append, List.nil_append, List.append_nil, List.getElem?_cons_zero, List.getElem?_cons_succ, List.set_cons_zero, List.set_cons_succ, Option.some.injEq, exists_eq_left', DEnds.xd, atI_0, atI_1, atI_2, atI_3, atI_4, atI_5, atI_6, atI_7, ixN_50, ixN_51, ixN_52, ixN_53, ixN_54, ixN_30, ixN_31, ixN_32, put_same, put_put, true_and, and_true, rdIsB, isBlV, rdStrI, rdIntS, rdMulS, dDict0, dDict1, dTry, wD, decide_true, decide_false, Bool.not_true, Bool.not_false, Bool.false_eq_true, if_true, if_false]
      exact told_q _ _ _ _ _ hl hz.sr fun S1 s1 => iteF (hN _ _ ⟨(hd_sub hH s1).h, _, rfl⟩)
  clear hH
  obtain ⟨hH, d6, rfl⟩ := hM
  refine cut_seq (fun ρ T => Hand T a c ∧ ∃ y7, ρ = [some (.rol (List.map Dv.int script)), some (.ref a), some (.int w), some (.tup (List.map Dv.int xs)), some (.tup (List.map Dv.int ys)), some (.tup (List.map Dv.int zs)), d6, y7, none]) (fun N hN => ?_) (fun ρ T hM => ?_)
  · unfold dFor
    simp only [dIfS, dTest, dOp, dVar, dC, dCB, dCons, dNil, dCall, dAndV, dOrV, dNotV, dAndT, dOrT, dNotT, dIf, dTup, dLst, dSl, oSome, oNone, dNeg, gN, gT, gConsD, gNilD, gSubD, dChain, dLc, dBM, isLst, iSeqD, iR1, iR2, iR3, dYes, rdAdd, rdSub, rdMul, rdDiv, rdMod, rdPow, rdIAdd, rdCmp, rdIsN, isNon, rdEqG, rdIx_tup, rdIx_rol, rdSet, rdSl, rdLen, rdInt1, rdInt, rdInt2, rdAppend, startN, wipeD, List.map_cons, List.map_nil, List.length_cons, List.length_nil, Nat.zero_add, Nat.sub_self, Nat.reduceAdd, Nat.reduceSub, List.replicate_succ, List.replicate_zero, List.cons_append, List.nil_append, List.append_nil, List.getElem?_cons_zero, List.getElem?_cons_succ, List.set_cons_zero, List.set_cons_succ, Option.some.injEq, exists_eq_left', DEnds.xd, atI_0, atI_1, atI_2, atI_3, atI_4, atI_5, atI_6, atI_7, ixN_50, ixN_51, ixN_52, ixN_53, ixN_54, ixN_30, ixN_31, ixN_32, put_same, put_put, true_and, and_true, rdIsB, isBlV, rdStrI, rdIntS, rdMulS, dDict0, dDict1, decide_true, decide_false, Bool.not_true, Bool.not_false, Bool.false_eq_true, if_true, if_false]
    refine ⟨a, c, zs, rfl, hH, hz, fun r1 T1 ht1 hr1 => ?_⟩
    refine ⟨xs, ys, ⟨rfl, hxs, hys⟩, a, c, _, rfl, ht1.h, hz1, fun r2 T2 ht2 hr2 => ?_⟩
    refine ⟨a, c, _, rfl, ht2.h, by decide, by decide, fun ns T3 ht3 hns hnl => ?_⟩
    refine ⟨Nat.zero_le _, by rw [sizeLine_eq]; decide, fun p hp => ?_⟩
    have hh := ht3.h.new (m := .lst [.tup (List.map Dv.int r1), .tup (List.map Dv.int r2), .tup (List.map Dv.int ns), .tup []]) hp
    have hpa := ht3.h.nea hp
    have hall : ∀ x ∈ [Dv.tup (List.map Dv.int r1), .tup (List.map Dv.int r2), .tup (List.map Dv.int ns), .tup []], ∃ l, x = .tup (List.map Dv.int l) ∧ sr l := by
      intro x hx
      simp only [List.mem_cons, List.not_mem_nil, or_false] at hx
      rcases hx with rfl | rfl | rfl | rfl
      · exact ⟨r1, rfl, hr1.sr⟩
      · exact ⟨r2, rfl, hr2.sr⟩
      · exact ⟨ns, rfl, ⟨by omega, hns⟩⟩
      · exact ⟨[], rfl, ⟨by simp, fun _ hm => by cases hm⟩⟩
    generalize [Dv.tup (List.map Dv.int r1), .tup (List.map Dv.int r2), .tup (List.map Dv.int ns), .tup []] = its at hh hall ⊢
    refine for_go (fun i ρ T => Hand T a c ∧ T p = some (.lst its) ∧ ∃ y7, ρ = [some (.rol (List.map Dv.int script)), some (.ref a), some (.int w), some (.tup (List.map Dv.int xs)), some (.tup (List.map Dv.int ys)), some (.tup (List.map Dv.int zs)), d6, y7, none]) ⟨hh, put_same, none, rfl⟩ (fun _ _ _ _ hw => hw.2.1) (fun i x ρ T hx hw => ?_) fun ρ T hw => hN _ _ ⟨hw.1, hw.2.2⟩
    obtain ⟨g1, g2, y7, rfl⟩ := hw
    obtain ⟨l, rfl, hl⟩ := hall x (List.mem_of_getElem? hx)
    simp only [dSeq, dAsg, dRet, dRetN, dIfS, dNext, dDrop, dRaise, dBreak, dCont, dTest, dOp, dVar, dC, dCB, dCons, dNil, dCall, dAndV, dOrV, dNotV, dAndT, dOrT, dNotT, dIf, dTup, dLst, dSl, oSome, oNone, dNeg, gN, gT, gConsD, gNilD, gSubD, dChain, dPar, dAug, dLc, dFor, dBM, isLst, iSeqD, iR1, iR2, iR3, dYes, rdAdd, rdSub, rdMul, rdDiv, rdMod, rdPow, rdIAdd, rdCmp, rdIsN, isNon, rdEqG, rdIx_tup, rdIx_rol, rdSet, rdSl, rdLen, rdInt1, rdInt, rdInt2, rdAppend, startN, wipeD, List.map_cons, List.map_nil, List.length_cons, List.length_nil, Nat.zero_add, Nat.sub_self, Nat.reduceAdd, Nat.reduceSub, List.replicate_succ, List.replicate_zero, List.cons_append, List.nil_append, List.append_nil, List.getElem?_cons_zero, List.getElem?_cons_succ, List.set_cons_zero, List.set_cons_succ, Option.some.injEq, exists_eq_left', DEnds.xd, atI_0, atI_1, atI_2, atI_3, atI_4, atI_5, atI_6, atI_7, ixN_50, ixN_51, ixN_52, ixN_53, ixN_54, ixN_30, ixN_31, ixN_32, put_same, put_put, true_and, and_true, rdIsB, isBlV, rdStrI, rdIntS, rdMulS, dDict0, dDict1, dTry, wD, decide_true, decide_false, Bool.not_true, Bool.not_false, Bool.false_eq_true, if_true, if_false]
    exact told_q _ _ _ _ _ hys hl fun S1 s1 => iteF ⟨(hd_sub g1 s1).h, s1 _ _ g2, _, rfl⟩
  clear hH
  obtain ⟨hH, y7, rfl⟩ := hM
  simp only [dSeq, dAsg, dRet, dRetN, dIfS, dNext, dDrop, dRaise, dBreak, dCont, dTest, dOp, dVar, dC, dCB, dCons, dNil, dCall, dAndV, dOrV, dNotV, dAndT, dOrT, dNotT, dIf, dTup, dLst, dSl, oSome, oNone, dNeg, gN, gT, gConsD, gNilD, gSubD, dChain, dPar, dAug, dLc, dFor, dBM, isLst, iSeqD, iR1, iR2, iR3, dYes, rdAdd, rdSub, rdMul, rdDiv, rdMod, rdPow, rdIAdd, rdCmp, rdIsN, isNon, rdEqG, rdIx_tup, rdIx_rol, rdSet, rdSl, rdLen, rdInt1, rdInt, rdInt2, rdAppend, startN, wipeD, List.map_cons, List.map_nil, List.length_cons, List.length_nil, Nat.zero_add, Nat.sub_self, Nat.reduceAdd, Nat.reduceSub, List.replicate_succ, List.replicate_zero, List.cons_append, List.nil_append, List.append_nil, List.getElem?_cons_zero, List.getElem?_cons_succ, List.set_cons_zero, List.set_cons_succ, Option.some.injEq, exists_eq_left', DEnds.xd, atI_0, atI_1, atI_2, atI_3, atI_4, atI_5, atI_6, atI_7, ixN_50, ixN_51, ixN_52, ixN_53, ixN_54, ixN_30, ixN_31, ixN_32, put_same, put_put, true_and, and_true, rdIsB, isBlV, rdStrI, rdIntS, rdMulS, dDict0, dDict1, dTry, wD, decide_true, decide_false, Bool.not_true, Bool.not_false, Bool.false_eq_true, if_true, if_false]
  refine ⟨xs, ys, ⟨rfl, hxs, hys⟩, ?_⟩
  unfold rdList seqOf
  dsimp only
  refine fun p hp => ?_
  refine ⟨by rw [sizeLine_eq]; decide, by rw [sizeLine_eq]; decide, by rw [sizeLine_eq]; decide, a, c, rfl, hH.new hp, fun d S1 hd1 hk hno => ?_⟩
  refine ⟨by rw [sizeLine_eq]; decide, fun q hq => ?_⟩
  have hpa := hH.nea hp
  have hqa := hd1.h.nea hq
  refine ⟨a, c, _, rfl, hd1.h.new hq, by decide, abs10 (n := 20) (by decide) (by decide), fun r T3 ht3 g1 g2 => ?_⟩
  have hall := (Hd.new (m := .lst (List.map Dv.int (chgF xs ys))) hH hp).trans (hd1.trans ((Hd.new (m := .lst [.non, .ref p, .int 7, .tup [.int 256], .tup [.bl true], .str (Str.ofString ""), .tup [.non], d]) hd1.h hq).trans ht3))
  have fin : ∀ t, knownL T3 t → isRow t = false → sp_is_change c2 [.tup (List.map Dv.int xs), .tup (List.map Dv.int ys), t] T3 (fun x S1 => sp__law_is 4 [x, .bl false] S1 Q (fun _ _ _ => False)) (fun _ _ _ => False) := fun t g3 g4 =>
    ⟨xs, ys, t, rfl, hxs, hys, g3, .inl ⟨g4, .bl false, rfl, trivial, h _⟩⟩
  obtain ⟨t, ht, hk2, hn⟩ : ∃ t, atI [Dv.non, .ref p, .int 7, .tup [.int 256], .tup [.bl true], .str (Str.ofString ""), .tup [.non], d] r = some t ∧ knownL T3 t ∧ isRow t = false := by
    have : r = 0 ∨ r = 1 ∨ r = 2 ∨ r = 3 ∨ r = 4 ∨ r = 5 ∨ r = 6 ∨ r = 7 := by omega
    rcases this with rfl | rfl | rfl | rfl | rfl | rfl | rfl | rfl
    · exact ⟨_, rfl, ⟨⟨_, rfl⟩, trivial⟩, rfl⟩
    · refine ⟨_, rfl, ⟨⟨"list", ?_⟩, trivial⟩, rfl⟩
      have e := (hd1.trans ((Hd.new (m := .lst [.non, .ref p, .int 7, .tup [.int 256], .tup [.bl true], .str (Str.ofString ""), .tup [.non], d]) hd1.h hq).trans ht3)).s p _ hpa put_same
      dsimp only [tyN]
      rw [e]
    · exact ⟨_, rfl, ⟨⟨_, rfl⟩, trivial⟩, rfl⟩
    · exact ⟨_, rfl, ⟨⟨_, rfl⟩, fun y hy => by rw [List.mem_singleton.mp hy]; exact ⟨_, rfl⟩⟩, by decide⟩
    · exact ⟨_, rfl, ⟨⟨_, rfl⟩, fun y hy => by rw [List.mem_singleton.mp hy]; exact ⟨_, rfl⟩⟩, by decide⟩
    · exact ⟨_, rfl, ⟨⟨_, rfl⟩, trivial⟩, rfl⟩
    · exact ⟨_, rfl, ⟨⟨_, rfl⟩, fun y hy => by rw [List.mem_singleton.mp hy]; exact ⟨_, rfl⟩⟩, by decide⟩
    · exact ⟨_, rfl, hk _ ((Hd.new (m := .lst [.non, .ref p, .int 7, .tup [.int 256], .tup [.bl true], .str (Str.ofString ""), .tup [.non], d]) hd1.h hq).trans ht3), hno⟩
  refine ix_ref (ht3.s q _ hqa put_same) ht ?_
  exact ⟨xs, ys, t, rfl, hxs, hys, hk2, .inl ⟨hn, .bl false, rfl, trivial, h _⟩⟩
end Lw

namespace Lw
open PySem PySem.Spec PyProof.Rows L2 VD
/-! terms, printed by gen.py from the law k25 -/
def topS (i : Nat) : Stmt := PySem.Challenge.pw_guessedworlds_k25_whole_changes_of_rows.main.body.getD i (.Pass ⟨0, 0, 0, 0⟩)
abbrev s_is_integer : Stmt := topS 5
abbrev N_is_integer : List Str := [Str.ofString "thing"]
theorem sc_is_integer : FnScope N_is_integer [Str.ofString "thing"] (defScope s_is_integer) := ⟨rfl, rfl, rfl, by decide +kernel, rfl, by decide +kernel, by decide +kernel⟩
abbrev s_is_within : Stmt := topS 6
abbrev N_is_within : List Str := [Str.ofString "thing", Str.ofString "least", Str.ofString "most"]
theorem sc_is_within : FnScope N_is_within [Str.ofString "thing", Str.ofString "least", Str.ofString "most"] (defScope s_is_within) := ⟨rfl, rfl, rfl, by decide +kernel, rfl, by decide +kernel, by decide +kernel⟩
abbrev s_is_below : Stmt := topS 7
abbrev N_is_below : List Str := [Str.ofString "thing", Str.ofString "many"]
theorem sc_is_below : FnScope N_is_below [Str.ofString "thing", Str.ofString "many"] (defScope s_is_below) := ⟨rfl, rfl, rfl, by decide +kernel, rfl, by decide +kernel, by decide +kernel⟩
abbrev s_is_row : Stmt := topS 14
abbrev N_is_row : List Str := [Str.ofString "thing", Str.ofString "item"]
theorem sc_is_row : FnScope N_is_row [Str.ofString "thing"] (defScope s_is_row) := ⟨rfl, rfl, rfl, by decide +kernel, rfl, by decide +kernel, by decide +kernel⟩
abbrev s_check_row : Stmt := topS 15
abbrev N_check_row : List Str := [Str.ofString "thing"]
theorem sc_check_row : FnScope N_check_row [Str.ofString "thing"] (defScope s_check_row) := ⟨rfl, rfl, rfl, by decide +kernel, rfl, by decide +kernel, by decide +kernel⟩
abbrev s_figures_of : Stmt := topS 16
abbrev N_figures_of : List Str := [Str.ofString "number", Str.ofString "found", Str.ofString "left"]
theorem sc_figures_of : FnScope N_figures_of [Str.ofString "number"] (defScope s_figures_of) := ⟨rfl, rfl, rfl, by decide +kernel, rfl, by decide +kernel, by decide +kernel⟩
abbrev s_number_at : Stmt := topS 17
abbrev N_number_at : List Str := [Str.ofString "row", Str.ofString "at", Str.ofString "found", Str.ofString "worth", Str.ofString "place", Str.ofString "is_needless"]
theorem sc_number_at : FnScope N_number_at [Str.ofString "row", Str.ofString "at"] (defScope s_number_at) := ⟨rfl, rfl, rfl, by decide +kernel, rfl, by decide +kernel, by decide +kernel⟩
abbrev s_part_at : Stmt := topS 23
abbrev N_part_at : List Str := [Str.ofString "change", Str.ofString "at", Str.ofString "found", Str.ofString "number", Str.ofString "behind", Str.ofString "kind", Str.ofString "many"]
theorem sc_part_at : FnScope N_part_at [Str.ofString "change", Str.ofString "at"] (defScope s_part_at) := ⟨rfl, rfl, rfl, by decide +kernel, rfl, by decide +kernel, by decide +kernel⟩
abbrev s_changed_or_wrong : Stmt := topS 24
abbrev N_changed_or_wrong : List Str := [Str.ofString "one", Str.ofString "change", Str.ofString "found", Str.ofString "here", Str.ofString "at", Str.ofString "part", Str.ofString "kind", Str.ofString "many", Str.ofString "behind"]
theorem sc_changed_or_wrong : FnScope N_changed_or_wrong [Str.ofString "one", Str.ofString "change"] (defScope s_changed_or_wrong) := ⟨rfl, rfl, rfl, by decide +kernel, rfl, by decide +kernel, by decide +kernel⟩
abbrev s_changed : Stmt := topS 25
abbrev N_changed : List Str := [Str.ofString "one", Str.ofString "change", Str.ofString "found", Str.ofString "wrong"]
theorem sc_changed : FnScope N_changed [Str.ofString "one", Str.ofString "change"] (defScope s_changed) := ⟨rfl, rfl, rfl, by decide +kernel, rfl, by decide +kernel, by decide +kernel⟩
abbrev s_common_begin : Stmt := topS 26
abbrev N_common_begin : List Str := [Str.ofString "one", Str.ofString "other", Str.ofString "many"]
theorem sc_common_begin : FnScope N_common_begin [Str.ofString "one", Str.ofString "other"] (defScope s_common_begin) := ⟨rfl, rfl, rfl, by decide +kernel, rfl, by decide +kernel, by decide +kernel⟩
abbrev s_common_end : Stmt := topS 27
abbrev N_common_end : List Str := [Str.ofString "one", Str.ofString "other", Str.ofString "most", Str.ofString "many"]
theorem sc_common_end : FnScope N_common_end [Str.ofString "one", Str.ofString "other", Str.ofString "most"] (defScope s_common_end) := ⟨rfl, rfl, rfl, by decide +kernel, rfl, by decide +kernel, by decide +kernel⟩
abbrev s_part_row : Stmt := topS 28
abbrev N_part_row : List Str := [Str.ofString "kind", Str.ofString "many"]
theorem sc_part_row : FnScope N_part_row [Str.ofString "kind", Str.ofString "many"] (defScope s_part_row) := ⟨rfl, rfl, rfl, by decide +kernel, rfl, by decide +kernel, by decide +kernel⟩
abbrev s_change_of : Stmt := topS 29
abbrev N_change_of : List Str := [Str.ofString "one", Str.ofString "other", Str.ofString "begin", Str.ofString "end", Str.ofString "middle", Str.ofString "out", Str.ofString "head"]
theorem sc_change_of : FnScope N_change_of [Str.ofString "one", Str.ofString "other"] (defScope s_change_of) := ⟨rfl, rfl, rfl, by decide +kernel, rfl, by decide +kernel, by decide +kernel⟩
abbrev s_change : Stmt := topS 30
abbrev N_change : List Str := [Str.ofString "one", Str.ofString "other"]
theorem sc_change : FnScope N_change [Str.ofString "one", Str.ofString "other"] (defScope s_change) := ⟨rfl, rfl, rfl, by decide +kernel, rfl, by decide +kernel, by decide +kernel⟩
abbrev s_is_change : Stmt := topS 31
abbrev N_is_change : List Str := [Str.ofString "one", Str.ofString "other", Str.ofString "thing"]
theorem sc_is_change : FnScope N_is_change [Str.ofString "one", Str.ofString "other", Str.ofString "thing"] (defScope s_is_change) := ⟨rfl, rfl, rfl, by decide +kernel, rfl, by decide +kernel, by decide +kernel⟩
abbrev s__law_hand : Stmt := topS 33
abbrev N__law_hand : List Str := [Str.ofString "_law_script", Str.ofString "_law_cell"]
theorem sc__law_hand : FnScope N__law_hand [Str.ofString "_law_script"] (defScope s__law_hand) := ⟨rfl, rfl, rfl, by decide +kernel, rfl, by decide +kernel, by decide +kernel⟩
abbrev s__law_draw : Stmt := topS 34
abbrev N__law_draw : List Str := [Str.ofString "_law_hand_here", Str.ofString "_law_many", Str.ofString "_law_cell", Str.ofString "_law_digit", Str.ofString "_law_number"]
theorem sc__law_draw : FnScope N__law_draw [Str.ofString "_law_hand_here", Str.ofString "_law_many"] (defScope s__law_draw) := ⟨rfl, rfl, rfl, by decide +kernel, rfl, by decide +kernel, by decide +kernel⟩
abbrev s__law_is : Stmt := topS 35
abbrev N__law_is : List Str := [Str.ofString "_law_told", Str.ofString "_law_due", Str.ofString "_law_one", Str.ofString "_law_two"]
theorem sc__law_is : FnScope N__law_is [Str.ofString "_law_told", Str.ofString "_law_due"] (defScope s__law_is) := ⟨rfl, rfl, rfl, by decide +kernel, rfl, by decide +kernel, by decide +kernel⟩
abbrev s__law_deep : Stmt := topS 36
abbrev N__law_deep : List Str := [Str.ofString "_law_hand_here", Str.ofString "_law_found", Str.ofString "_law_turn"]
theorem sc__law_deep : FnScope N__law_deep [Str.ofString "_law_hand_here"] (defScope s__law_deep) := ⟨rfl, rfl, rfl, by decide +kernel, rfl, by decide +kernel, by decide +kernel⟩
abbrev s__law_whole : Stmt := topS 37
abbrev N__law_whole : List Str := [Str.ofString "_law_number", Str.ofString "_law_found", Str.ofString "_law_turn"]
theorem sc__law_whole : FnScope N__law_whole [Str.ofString "_law_number"] (defScope s__law_whole) := ⟨rfl, rfl, rfl, by decide +kernel, rfl, by decide +kernel, by decide +kernel⟩
abbrev s__law_read : Stmt := topS 38
abbrev N__law_read : List Str := [Str.ofString "_law_row", Str.ofString "_law_at", Str.ofString "_law_turn", Str.ofString "_law_number", Str.ofString "_law_place"]
theorem sc__law_read : FnScope N__law_read [Str.ofString "_law_row", Str.ofString "_law_at"] (defScope s__law_read) := ⟨rfl, rfl, rfl, by decide +kernel, rfl, by decide +kernel, by decide +kernel⟩
abbrev s__law_byte : Stmt := topS 39
abbrev N__law_byte : List Str := [Str.ofString "_law_hand_here"]
theorem sc__law_byte : FnScope N__law_byte [Str.ofString "_law_hand_here"] (defScope s__law_byte) := ⟨rfl, rfl, rfl, by decide +kernel, rfl, by decide +kernel, by decide +kernel⟩
abbrev s__law_bytes : Stmt := topS 40
abbrev N__law_bytes : List Str := [Str.ofString "_law_hand_here", Str.ofString "_law_most", Str.ofString "_law_turn"]
theorem sc__law_bytes : FnScope N__law_bytes [Str.ofString "_law_hand_here", Str.ofString "_law_most"] (defScope s__law_bytes) := ⟨rfl, rfl, rfl, by decide +kernel, rfl, by decide +kernel, by decide +kernel⟩
abbrev s__law_spoilt : Stmt := topS 41
abbrev N__law_spoilt : List Str := [Str.ofString "_law_hand_here", Str.ofString "_law_row", Str.ofString "_law_kind", Str.ofString "_law_at"]
theorem sc__law_spoilt : FnScope N__law_spoilt [Str.ofString "_law_hand_here", Str.ofString "_law_row"] (defScope s__law_spoilt) := ⟨rfl, rfl, rfl, by decide +kernel, rfl, by decide +kernel, by decide +kernel⟩
abbrev s__law_become : Stmt := topS 42
abbrev N__law_become : List Str := [Str.ofString "_law_one", Str.ofString "_law_some", Str.ofString "_law_found", Str.ofString "_law_here", Str.ofString "_law_at", Str.ofString "_law_turn", Str.ofString "_law_part", Str.ofString "_law_many", Str.ofString "_law_kind"]
theorem sc__law_become : FnScope N__law_become [Str.ofString "_law_one", Str.ofString "_law_some"] (defScope s__law_become) := ⟨rfl, rfl, rfl, by decide +kernel, rfl, by decide +kernel, by decide +kernel⟩
abbrev s__law_changed_told : Stmt := topS 43
abbrev N__law_changed_told : List Str := [Str.ofString "_law_one", Str.ofString "_law_some", Str.ofString "error"]
theorem sc__law_changed_told : FnScope N__law_changed_told [Str.ofString "_law_one", Str.ofString "_law_some"] (defScope s__law_changed_told) := ⟨rfl, rfl, rfl, by decide +kernel, rfl, by decide +kernel, by decide +kernel⟩
abbrev s__law_is_told : Stmt := topS 44
abbrev N__law_is_told : List Str := [Str.ofString "_law_one", Str.ofString "_law_other", Str.ofString "_law_some", Str.ofString "_law_due", Str.ofString "_law_place", Str.ofString "_law_told"]
theorem sc__law_is_told : FnScope N__law_is_told [Str.ofString "_law_one", Str.ofString "_law_other", Str.ofString "_law_some"] (defScope s__law_is_told) := ⟨rfl, rfl, rfl, by decide +kernel, rfl, by decide +kernel, by decide +kernel⟩
abbrev s__law_drawn_change : Stmt := topS 45
abbrev N__law_drawn_change : List Str := [Str.ofString "_law_hand_here", Str.ofString "_law_one", Str.ofString "_law_found", Str.ofString "_law_here", Str.ofString "_law_turn", Str.ofString "_law_kind", Str.ofString "_law_some", Str.ofString "_law_many", Str.ofString "_law_place"]
theorem sc__law_drawn_change : FnScope N__law_drawn_change [Str.ofString "_law_hand_here", Str.ofString "_law_one"] (defScope s__law_drawn_change) := ⟨rfl, rfl, rfl, by decide +kernel, rfl, by decide +kernel, by decide +kernel⟩
abbrev s__law_spliced : Stmt := topS 46
abbrev N__law_spliced : List Str := [Str.ofString "_law_hand_here", Str.ofString "_law_row", Str.ofString "_law_turn", Str.ofString "_law_begin", Str.ofString "_law_end"]
theorem sc__law_spliced : FnScope N__law_spliced [Str.ofString "_law_hand_here", Str.ofString "_law_row"] (defScope s__law_spliced) := ⟨rfl, rfl, rfl, by decide +kernel, rfl, by decide +kernel, by decide +kernel⟩
abbrev s__law_is_path : Stmt := topS 47
abbrev N__law_is_path : List Str := [Str.ofString "_law_one", Str.ofString "_law_other", Str.ofString "_law_found", Str.ofString "_law_most"]
theorem sc__law_is_path : FnScope N__law_is_path [Str.ofString "_law_one", Str.ofString "_law_other"] (defScope s__law_is_path) := ⟨rfl, rfl, rfl, by decide +kernel, rfl, by decide +kernel, by decide +kernel⟩
abbrev s_law : Stmt := topS 48
abbrev N_law : List Str := [Str.ofString "_law_script", Str.ofString "_law_hand_here", Str.ofString "_law_way", Str.ofString "_law_one", Str.ofString "_law_other", Str.ofString "_law_some", Str.ofString "_law_due", Str.ofString "_law_row", Str.ofString "_law_thing"]
theorem sc_law : FnScope N_law [Str.ofString "_law_script"] (defScope s_law) := ⟨rfl, rfl, rfl, by decide +kernel, rfl, by decide +kernel, by decide +kernel⟩
abbrev s_BadChange___init__ : Stmt := inClass (topS 3) 0
abbrev N_BadChange___init__ : List Str := [Str.ofString "self", Str.ofString "place"]
theorem sc_BadChange___init__ : FnScope [Str.ofString "self", Str.ofString "place"] [Str.ofString "self", Str.ofString "place"] (defScope s_BadChange___init__) := ⟨rfl, rfl, rfl, by decide +kernel, rfl, by decide +kernel, by decide +kernel⟩
structure Tx (K : PySem.W.Frag) (mg : Str → Option Value) (A : Ad) where
  a_is_integer : Addr
  fd_is_integer : FuncData
  F_is_integer : Fun K "is_integer" "is_integer" s_is_integer a_is_integer fd_is_integer
  m_is_integer : mg "is_integer" = some (.ref a_is_integer)
  b_is_integer : Binds K fd_is_integer [Str.ofString "thing"] []
  a_is_within : Addr
  fd_is_within : FuncData
  F_is_within : Fun K "is_within" "is_within" s_is_within a_is_within fd_is_within
  m_is_within : mg "is_within" = some (.ref a_is_within)
  b_is_within : Binds K fd_is_within [Str.ofString "thing", Str.ofString "least", Str.ofString "most"] []
  a_is_below : Addr
  fd_is_below : FuncData
  F_is_below : Fun K "is_below" "is_below" s_is_below a_is_below fd_is_below
  m_is_below : mg "is_below" = some (.ref a_is_below)
  b_is_below : Binds K fd_is_below [Str.ofString "thing", Str.ofString "many"] []
  a_is_row : Addr
  fd_is_row : FuncData
  F_is_row : Fun K "is_row" "is_row" s_is_row a_is_row fd_is_row
  m_is_row : mg "is_row" = some (.ref a_is_row)
  b_is_row : Binds K fd_is_row [Str.ofString "thing"] []
  a_check_row : Addr
  fd_check_row : FuncData
  F_check_row : Fun K "check_row" "check_row" s_check_row a_check_row fd_check_row
  m_check_row : mg "check_row" = some (.ref a_check_row)
  b_check_row : Binds K fd_check_row [Str.ofString "thing"] []
  a_figures_of : Addr
  fd_figures_of : FuncData
  F_figures_of : Fun K "figures_of" "figures_of" s_figures_of a_figures_of fd_figures_of
  m_figures_of : mg "figures_of" = some (.ref a_figures_of)
  b_figures_of : Binds K fd_figures_of [Str.ofString "number"] []
  a_number_at : Addr
  fd_number_at : FuncData
  F_number_at : Fun K "number_at" "number_at" s_number_at a_number_at fd_number_at
  m_number_at : mg "number_at" = some (.ref a_number_at)
  b_number_at : Binds K fd_number_at [Str.ofString "row", Str.ofString "at"] []
  a_part_at : Addr
  fd_part_at : FuncData
  F_part_at : Fun K "part_at" "part_at" s_part_at a_part_at fd_part_at
  m_part_at : mg "part_at" = some (.ref a_part_at)
  b_part_at : Binds K fd_part_at [Str.ofString "change", Str.ofString "at"] []
  a_changed_or_wrong : Addr
  fd_changed_or_wrong : FuncData
  F_changed_or_wrong : Fun K "changed_or_wrong" "changed_or_wrong" s_changed_or_wrong a_changed_or_wrong fd_changed_or_wrong
  m_changed_or_wrong : mg "changed_or_wrong" = some (.ref a_changed_or_wrong)
  b_changed_or_wrong : Binds K fd_changed_or_wrong [Str.ofString "one", Str.ofString "change"] []
  a_changed : Addr
  fd_changed : FuncData
  F_changed : Fun K "changed" "changed" s_changed a_changed fd_changed
  m_changed : mg "changed" = some (.ref a_changed)
  b_changed : Binds K fd_changed [Str.ofString "one", Str.ofString "change"] []
  a_common_begin : Addr
  fd_common_begin : FuncData
  F_common_begin : Fun K "common_begin" "common_begin" s_common_begin a_common_begin fd_common_begin
  m_common_begin : mg "common_begin" = some (.ref a_common_begin)
  b_common_begin : Binds K fd_common_begin [Str.ofString "one", Str.ofString "other"] []
  a_common_end : Addr
  fd_common_end : FuncData
  F_common_end : Fun K "common_end" "common_end" s_common_end a_common_end fd_common_end
  m_common_end : mg "common_end" = some (.ref a_common_end)
  b_common_end : Binds K fd_common_end [Str.ofString "one", Str.ofString "other", Str.ofString "most"] []
  a_part_row : Addr
  fd_part_row : FuncData
  F_part_row : Fun K "part_row" "part_row" s_part_row a_part_row fd_part_row
  m_part_row : mg "part_row" = some (.ref a_part_row)
  b_part_row : Binds K fd_part_row [Str.ofString "kind", Str.ofString "many"] []
  a_change_of : Addr
  fd_change_of : FuncData
  F_change_of : Fun K "change_of" "change_of" s_change_of a_change_of fd_change_of
  m_change_of : mg "change_of" = some (.ref a_change_of)
  b_change_of : Binds K fd_change_of [Str.ofString "one", Str.ofString "other"] []
  a_change : Addr
  fd_change : FuncData
  F_change : Fun K "change" "change" s_change a_change fd_change
  m_change : mg "change" = some (.ref a_change)
  b_change : Binds K fd_change [Str.ofString "one", Str.ofString "other"] []
  a_is_change : Addr
  fd_is_change : FuncData
  F_is_change : Fun K "is_change" "is_change" s_is_change a_is_change fd_is_change
  m_is_change : mg "is_change" = some (.ref a_is_change)
  b_is_change : Binds K fd_is_change [Str.ofString "one", Str.ofString "other", Str.ofString "thing"] []
  a__law_hand : Addr
  fd__law_hand : FuncData
  F__law_hand : Fun K "_law_hand" "_law_hand" s__law_hand a__law_hand fd__law_hand
  m__law_hand : mg "_law_hand" = some (.ref a__law_hand)
  b__law_hand : Binds K fd__law_hand [Str.ofString "_law_script"] []
  a__law_draw : Addr
  fd__law_draw : FuncData
  F__law_draw : Fun K "_law_draw" "_law_draw" s__law_draw a__law_draw fd__law_draw
  m__law_draw : mg "_law_draw" = some (.ref a__law_draw)
  b__law_draw : Binds K fd__law_draw [Str.ofString "_law_hand_here", Str.ofString "_law_many"] []
  a__law_is : Addr
  fd__law_is : FuncData
  F__law_is : Fun K "_law_is" "_law_is" s__law_is a__law_is fd__law_is
  m__law_is : mg "_law_is" = some (.ref a__law_is)
  b__law_is : Binds K fd__law_is [Str.ofString "_law_told", Str.ofString "_law_due"] []
  a__law_deep : Addr
  fd__law_deep : FuncData
  F__law_deep : Fun K "_law_deep" "_law_deep" s__law_deep a__law_deep fd__law_deep
  m__law_deep : mg "_law_deep" = some (.ref a__law_deep)
  b__law_deep : Binds K fd__law_deep [Str.ofString "_law_hand_here"] []
  a__law_whole : Addr
  fd__law_whole : FuncData
  F__law_whole : Fun K "_law_whole" "_law_whole" s__law_whole a__law_whole fd__law_whole
  m__law_whole : mg "_law_whole" = some (.ref a__law_whole)
  b__law_whole : Binds K fd__law_whole [Str.ofString "_law_number"] []
  a__law_read : Addr
  fd__law_read : FuncData
  F__law_read : Fun K "_law_read" "_law_read" s__law_read a__law_read fd__law_read
  m__law_read : mg "_law_read" = some (.ref a__law_read)
  b__law_read : Binds K fd__law_read [Str.ofString "_law_row", Str.ofString "_law_at"] []
  a__law_byte : Addr
  fd__law_byte : FuncData
  F__law_byte : Fun K "_law_byte" "_law_byte" s__law_byte a__law_byte fd__law_byte
  m__law_byte : mg "_law_byte" = some (.ref a__law_byte)
  b__law_byte : Binds K fd__law_byte [Str.ofString "_law_hand_here"] []
  a__law_bytes : Addr
  fd__law_bytes : FuncData
  F__law_bytes : Fun K "_law_bytes" "_law_bytes" s__law_bytes a__law_bytes fd__law_bytes
  m__law_bytes : mg "_law_bytes" = some (.ref a__law_bytes)
  b__law_bytes : Binds K fd__law_bytes [Str.ofString "_law_hand_here", Str.ofString "_law_most"] []
  a__law_spoilt : Addr
  fd__law_spoilt : FuncData
  F__law_spoilt : Fun K "_law_spoilt" "_law_spoilt" s__law_spoilt a__law_spoilt fd__law_spoilt
  m__law_spoilt : mg "_law_spoilt" = some (.ref a__law_spoilt)
  b__law_spoilt : Binds K fd__law_spoilt [Str.ofString "_law_hand_here", Str.ofString "_law_row"] []
  a__law_become : Addr
  fd__law_become : FuncData
  F__law_become : Fun K "_law_become" "_law_become" s__law_become a__law_become fd__law_become
  m__law_become : mg "_law_become" = some (.ref a__law_become)
  b__law_become : Binds K fd__law_become [Str.ofString "_law_one", Str.ofString "_law_some"] []
  a__law_changed_told : Addr
  fd__law_changed_told : FuncData
  F__law_changed_told : Fun K "_law_changed_told" "_law_changed_told" s__law_changed_told a__law_changed_told fd__law_changed_told
  m__law_changed_told : mg "_law_changed_told" = some (.ref a__law_changed_told)
  b__law_changed_told : Binds K fd__law_changed_told [Str.ofString "_law_one", Str.ofString "_law_some"] []
  a__law_is_told : Addr
  fd__law_is_told : FuncData
  F__law_is_told : Fun K "_law_is_told" "_law_is_told" s__law_is_told a__law_is_told fd__law_is_told
  m__law_is_told : mg "_law_is_told" = some (.ref a__law_is_told)
  b__law_is_told : Binds K fd__law_is_told [Str.ofString "_law_one", Str.ofString "_law_other", Str.ofString "_law_some"] []
  a__law_drawn_change : Addr
  fd__law_drawn_change : FuncData
  F__law_drawn_change : Fun K "_law_drawn_change" "_law_drawn_change" s__law_drawn_change a__law_drawn_change fd__law_drawn_change
  m__law_drawn_change : mg "_law_drawn_change" = some (.ref a__law_drawn_change)
  b__law_drawn_change : Binds K fd__law_drawn_change [Str.ofString "_law_hand_here", Str.ofString "_law_one"] []
  a__law_spliced : Addr
  fd__law_spliced : FuncData
  F__law_spliced : Fun K "_law_spliced" "_law_spliced" s__law_spliced a__law_spliced fd__law_spliced
  m__law_spliced : mg "_law_spliced" = some (.ref a__law_spliced)
  b__law_spliced : Binds K fd__law_spliced [Str.ofString "_law_hand_here", Str.ofString "_law_row"] []
  a__law_is_path : Addr
  fd__law_is_path : FuncData
  F__law_is_path : Fun K "_law_is_path" "_law_is_path" s__law_is_path a__law_is_path fd__law_is_path
  m__law_is_path : mg "_law_is_path" = some (.ref a__law_is_path)
  b__law_is_path : Binds K fd__law_is_path [Str.ofString "_law_one", Str.ofString "_law_other"] []
  a_law : Addr
  fd_law : FuncData
  F_law : Fun K "law" "law" s_law a_law fd_law
  m_law : mg "law" = some (.ref a_law)
  b_law : Binds K fd_law [Str.ofString "_law_script"] []
  u_BYTE : Value
  m_BYTE : mg "BYTE" = some u_BYTE
  v_BYTE : VRep K u_BYTE (.int 256)
  u_FIGURE : Value
  m_FIGURE : mg "FIGURE" = some u_FIGURE
  v_FIGURE : VRep K u_FIGURE (.int 128)
  u_KEPT : Value
  m_KEPT : mg "KEPT" = some u_KEPT
  v_KEPT : VRep K u_KEPT (.int 0)
  u_LEAST_KEPT : Value
  m_LEAST_KEPT : mg "LEAST_KEPT" = some u_LEAST_KEPT
  v_LEAST_KEPT : VRep K u_LEAST_KEPT (.int 8)
  u_LEFT_OUT : Value
  m_LEFT_OUT : mg "LEFT_OUT" = some u_LEFT_OUT
  v_LEFT_OUT : VRep K u_LEFT_OUT (.int 1)
  u_MOST_BYTES : Value
  m_MOST_BYTES : mg "MOST_BYTES" = some u_MOST_BYTES
  v_MOST_BYTES : VRep K u_MOST_BYTES (.int 300000)
  u_MOST_FIGURES : Value
  m_MOST_FIGURES : mg "MOST_FIGURES" = some u_MOST_FIGURES
  v_MOST_FIGURES : VRep K u_MOST_FIGURES (.int 10)
  u_PUT_IN : Value
  m_PUT_IN : mg "PUT_IN" = some u_PUT_IN
  v_PUT_IN : VRep K u_PUT_IN (.int 2)
  u_WHOLE_BOUND : Value
  m_WHOLE_BOUND : mg "WHOLE_BOUND" = some u_WHOLE_BOUND
  v_WHOLE_BOUND : VRep K u_WHOLE_BOUND (.int 18446744073709551616)
  n_all : mg "all" = none
  n_bool : mg "bool" = none
  n_int : mg "int" = none
  n_isinstance : mg "isinstance" = none
  n_len : mg "len" = none
  n_list : mg "list" = none
  n_min : mg "min" = none
  n_range : mg "range" = none
  n_tuple : mg "tuple" = none
  n_zip : mg "zip" = none
  m_WorldError : mg "WorldError" = some (.ref A.WorldError)
  x_WorldError : Exc0 K A.WorldError
  m_NoRow : mg "NoRow" = some (.ref A.NoRow)
  x_NoRow : Exc0 K A.NoRow
  m_BadChange : mg "BadChange" = some (.ref A.BadChange)
  o_BadChange : OexC K A.BadChange
  z_BadChange : XfC K A.BadChange
  nf_BadChange : PySem.W.findIn K (.ref A.BadChange) (Str.ofString "place") = some none
  ai_BadChange : Addr
  fdi_BadChange : FuncData
  i_BadChange : PySem.W.findIn K (.ref A.BadChange) "__init__" = some (some (.ref ai_BadChange))
  t_BadChange : PySem.W.typeIn K (.ref ai_BadChange) = some (.type "function")
  Fi_BadChange : Fun K "__init__" "BadChange.__init__" s_BadChange___init__ ai_BadChange fdi_BadChange
  bi_BadChange : Binds K fdi_BadChange [Str.ofString "self", Str.ofString "place"] []
  e_BadChange_BadChange : PySem.W.exmOne K (.ref A.BadChange) (.ref A.BadChange) = some true
  e_NoRow_BadChange : PySem.W.exmOne K (.ref A.NoRow) (.ref A.BadChange) = some false
section
variable {P : Program} {w : World} {K : PySem.W.Frag} {mg : Str → Option Value} {base : Heap} {A : Ad}
theorem gi_BadChange (T : Tx K mg A) : FnOk P w K mg base (L2.CX P w) 1 T.ai_BadChange T.fdi_BadChange [Str.ofString "self", Str.ofString "place"] (spInit A.BadChange (Str.ofString "place")) := okInit T.Fi_BadChange sc_BadChange___init__ T.o_BadChange T.nf_BadChange (fun cdv An outer s H E hr => pss_one (ps_ost (pv 0) (pv 1)))
theorem w_is_integer (T : Tx K mg A) (cdv : Value) (An : Around) (outer : List Env) (s : Shared) (H : Hp) (E : XK) (hr : Room 0 (An.deeper (envOfC "is_integer" (defScope s_is_integer) s.heap.objs.size T.a_is_integer cdv))) :
    PSs (cxOf (L2.CX P w) P w K mg base N_is_integer "is_integer" (defScope s_is_integer) T.a_is_integer cdv An outer s H E) (defBody s_is_integer) (lowS K (WF E) r_is_integer) :=
  (s_one (s_ret (d_and (d_callB call_isiA l_isi T.n_isinstance bt_isinstance (da_cons (dv 0) (da_cons (d_ty T.n_int bt_int) da_nil))) (d_one (d_not (d_callB call_isiA l_isi T.n_isinstance bt_isinstance (da_cons (dv 0) (da_cons (d_ty T.n_bool bt_bool) da_nil))))))))
theorem w_is_within (T : Tx K mg A) (G_is_integer : FnD P w K mg base 1 T.a_is_integer T.fd_is_integer [Str.ofString "thing"] sp_is_integer) (cdv : Value) (An : Around) (outer : List Env) (s : Shared) (H : Hp) (E : XK) (hr : Room 1 (An.deeper (envOfC "is_within" (defScope s_is_within) s.heap.objs.size T.a_is_within cdv))) :
    PSs (cxOf (L2.CX P w) P w K mg base N_is_within "is_within" (defScope s_is_within) T.a_is_within cdv An outer s H E) (defBody s_is_within) (lowS K (WF E) r_is_within) :=
  (s_one (s_ret (d_and (d_call G_is_integer (hr.mono (by decide)) T.m_is_integer T.F_is_integer.kp T.b_is_integer tkF (da_cons (dv 0) da_nil)) (d_one (d_chain op_le l_cmp op_le l_cmp (dv 1) (dv 0) (dv 2))))))
theorem w_is_below (T : Tx K mg A) (G_is_within : FnD P w K mg base 2 T.a_is_within T.fd_is_within [Str.ofString "thing", Str.ofString "least", Str.ofString "most"] sp_is_within) (cdv : Value) (An : Around) (outer : List Env) (s : Shared) (H : Hp) (E : XK) (hr : Room 2 (An.deeper (envOfC "is_below" (defScope s_is_below) s.heap.objs.size T.a_is_below cdv))) :
    PSs (cxOf (L2.CX P w) P w K mg base N_is_below "is_below" (defScope s_is_below) T.a_is_below cdv An outer s H E) (defBody s_is_below) (lowS K (WF E) r_is_below) :=
  (s_one (s_ret (d_call G_is_within (hr.mono (by decide)) T.m_is_within T.F_is_within.kp T.b_is_within tkF (da_cons (dv 0) (da_cons d_int (da_cons (d_op op_sub l_sub (dv 1) d_int) da_nil))))))
theorem w_is_row (T : Tx K mg A) (G_is_below : FnD P w K mg base 3 T.a_is_below T.fd_is_below [Str.ofString "thing", Str.ofString "many"] sp_is_below) (cdv : Value) (An : Around) (outer : List Env) (s : Shared) (H : Hp) (E : XK) (hr : Room 3 (An.deeper (envOfC "is_row" (defScope s_is_row) s.heap.objs.size T.a_is_row cdv))) :
    PSs (cxOf (L2.CX P w) P w K mg base N_is_row "is_row" (defScope s_is_row) T.a_is_row cdv An outer s H E) (defBody s_is_row) (lowS K (WF E) r_is_row) :=
  (s_one (s_ret (d_and (d_callB call_isiA l_isi T.n_isinstance bt_isinstance (da_cons (dv 0) (da_cons (d_ty T.n_tuple bt_tuple) da_nil))) (d_and (d_cmp op_le l_cmp (d_callB call_len l_len T.n_len bt_len (da_cons (dv 0) da_nil)) (d_glob T.m_MOST_BYTES T.v_MOST_BYTES)) (d_one (d_callB (cr_all rfl) l_all T.n_all bt_all (da_cons (d_lc (own := [(Str.ofString "item", 1)]) rfl sc_is_row.nd (i_seq (dv 0)) (blkOk_by (N := N_is_row) (sc := defScope s_is_row) (by decide +kernel)) (fun _ _ _ _ _ => (pg_name (i := 1) sc_is_row.nd rfl (Or.inl rfl))) (ng_name (by decide)) (fun _ _ _ _ _ => c_nil) (fun _ _ _ _ _ => (d_call G_is_below (hr.mono (by decide)) T.m_is_below T.F_is_below.kp T.b_is_below takes0 (da_cons (dv 1) (da_cons (d_glob T.m_BYTE T.v_BYTE) da_nil))))) da_nil)))))))
theorem w_check_row (T : Tx K mg A) (G_is_row : FnD P w K mg base 4 T.a_is_row T.fd_is_row [Str.ofString "thing"] sp_is_row) (cdv : Value) (An : Around) (outer : List Env) (s : Shared) (H : Hp) (E : XK) (hr : Room 4 (An.deeper (envOfC "check_row" (defScope s_check_row) s.heap.objs.size T.a_check_row cdv))) :
    PSs (cxOf (L2.CX P w) P w K mg base N_check_row "check_row" (defScope s_check_row) T.a_check_row cdv An outer s H E) (defBody s_check_row) (lowS K (WF E) (r_check_row A.NoRow)) :=
  (s_one (s_if (t_not (t_val (d_call G_is_row (hr.mono (by decide)) T.m_is_row T.F_is_row.kp T.b_is_row tkF (da_cons (dv 0) da_nil)))) (s_one (s_raise0 rfl tkF T.x_NoRow T.m_NoRow)) s_nil))
theorem w_figures_of (T : Tx K mg A) (cdv : Value) (An : Around) (outer : List Env) (s : Shared) (H : Hp) (E : XK) (hr : Room 0 (An.deeper (envOfC "figures_of" (defScope s_figures_of) s.heap.objs.size T.a_figures_of cdv))) :
    PSs (cxOf (L2.CX P w) P w K mg base N_figures_of "figures_of" (defScope s_figures_of) T.a_figures_of cdv An outer s H E) (defBody s_figures_of) (lowS K (WF E) r_figures_of) :=
  (s_cons (s_set 1 sc_figures_of.nd (d_lst da_nil))
    (s_cons (s_set 2 sc_figures_of.nd (dv 0))
    (s_cons (s_while (passes_of rfl) (t_cmp op_ge l_cmp (dv 2) (d_glob T.m_FIGURE T.v_FIGURE)) (s_cons (s_expr (d_bm PySem.F.slot_list_append PySem.F.type_list_append mt_append l_append (dv 1) (da_cons (d_op op_addA l_add (d_op op_mod l_mod (dv 2) (d_glob T.m_FIGURE T.v_FIGURE)) (d_glob T.m_FIGURE T.v_FIGURE)) da_nil)))
    (s_one (s_set 2 sc_figures_of.nd (d_op op_divP l_div (dv 2) (d_glob T.m_FIGURE T.v_FIGURE))))))
    (s_one (s_ret (d_op op_addA l_add (d_callTy call_tuple_of l_tuple T.n_tuple bt_tuple (da_cons (dv 1) da_nil)) (d_tup (da_cons (dv 2) da_nil))))))))
theorem w_number_at (T : Tx K mg A) (cdv : Value) (An : Around) (outer : List Env) (s : Shared) (H : Hp) (E : XK) (hr : Room 0 (An.deeper (envOfC "number_at" (defScope s_number_at) s.heap.objs.size T.a_number_at cdv))) :
    PSs (cxOf (L2.CX P w) P w K mg base N_number_at "number_at" (defScope s_number_at) T.a_number_at cdv An outer s H E) (defBody s_number_at) (lowS K (WF E) r_number_at) :=
  (s_cons (s_set 2 sc_number_at.nd d_int)
    (s_cons (s_set 3 sc_number_at.nd d_int)
    (s_cons (s_for (passes_of rfl) rfl (i_r2 T.n_range (da_cons (dv 1) (da_cons (d_callB (call_min2 rfl) l_min2 T.n_min bt_min (da_cons (d_callB call_len l_len T.n_len bt_len (da_cons (dv 0) da_nil)) (da_cons (d_op op_addA l_add (dv 1) (d_glob T.m_MOST_FIGURES T.v_MOST_FIGURES)) da_nil))) da_nil))) (g_name 4 sc_number_at.nd) (s_cons (s_aug 2 sc_number_at.nd iop_add l_iadd (d_op op_mulA l_mul (d_op op_mod l_mod (d_ix (dv 0) (dv 4)) (d_glob T.m_FIGURE T.v_FIGURE)) (dv 3)))
    (s_cons (s_set 3 sc_number_at.nd (d_op op_mulA l_mul (dv 3) (d_glob T.m_FIGURE T.v_FIGURE)))
    (s_one (s_if (t_cmp op_lt l_cmp (d_ix (dv 0) (dv 4)) (d_glob T.m_FIGURE T.v_FIGURE)) (s_cons (s_set 5 sc_number_at.nd (d_and (d_cmp (op_eqA hr.units) l_eq (d_ix (dv 0) (dv 4)) d_int) (d_one (d_cmp op_gt l_cmp (dv 4) (dv 1)))))
    (s_one (s_ret (d_ifExp (PW.pt (t_or (t_val (dv 5)) (t_or1 (t_cmp op_ge l_cmp (dv 2) (d_glob T.m_WHOLE_BOUND T.v_WHOLE_BOUND))))) d_non (d_tup (da_cons (dv 2) (da_cons (d_op op_addA l_add (dv 4) d_int) da_nil))))))) s_nil)))))
    (s_one (s_ret d_non)))))
theorem w_part_at (T : Tx K mg A) (G_number_at : FnD P w K mg base 1 T.a_number_at T.fd_number_at [Str.ofString "row", Str.ofString "at"] sp_number_at) (cdv : Value) (An : Around) (outer : List Env) (s : Shared) (H : Hp) (E : XK) (hr : Room 1 (An.deeper (envOfC "part_at" (defScope s_part_at) s.heap.objs.size T.a_part_at cdv))) :
    PSs (cxOf (L2.CX P w) P w K mg base N_part_at "part_at" (defScope s_part_at) T.a_part_at cdv An outer s H E) (defBody s_part_at) (lowS K (WF E) r_part_at) :=
  (s_cons (s_set 2 sc_part_at.nd (d_call G_number_at (hr.mono (by decide)) T.m_number_at T.F_number_at.kp T.b_number_at tkF (da_cons (dv 0) (da_cons (dv 1) da_nil))))
    (s_cons (s_if (t_cmp op_isN l_isN (dv 2) d_non) (s_one (s_ret d_non)) s_nil)
    (s_cons (s_asg (dv 2) (g_tup (n := 2) rfl (g_cons (g_name 3 sc_part_at.nd) (g_cons (g_name 4 sc_part_at.nd) g_nil))))
    (s_cons (s_par 5 6 rfl sc_part_at.nd (da_cons (d_op op_mod l_mod (dv 3) d_int) (da_cons (d_op op_divP l_div (dv 3) d_int) da_nil)) (by rfl))
    (s_cons (s_if (PW.pt (t_or (t_cmp (op_eqA hr.units) l_eq (dv 6) d_int) (t_or1 (PW.pt (t_and (t_cmp (op_eqA hr.units) l_eq (dv 5) (d_glob T.m_PUT_IN T.v_PUT_IN)) (t_and1 (t_cmp op_gt l_cmp (d_op op_addA l_add (dv 4) (dv 6)) (d_callB call_len l_len T.n_len bt_len (da_cons (dv 0) da_nil))))))))) (s_one (s_ret d_non)) s_nil)
    (s_one (s_ret (d_tup (da_cons (dv 5) (da_cons (dv 6) (da_cons (dv 4) da_nil)))))))))))
theorem w_changed_or_wrong (T : Tx K mg A) (G_part_at : FnD P w K mg base 2 T.a_part_at T.fd_part_at [Str.ofString "change", Str.ofString "at"] sp_part_at) (cdv : Value) (An : Around) (outer : List Env) (s : Shared) (H : Hp) (E : XK) (hr : Room 2 (An.deeper (envOfC "changed_or_wrong" (defScope s_changed_or_wrong) s.heap.objs.size T.a_changed_or_wrong cdv))) :
    PSs (cxOf (L2.CX P w) P w K mg base N_changed_or_wrong "changed_or_wrong" (defScope s_changed_or_wrong) T.a_changed_or_wrong cdv An outer s H E) (defBody s_changed_or_wrong) (lowS K (WF E) r_changed_or_wrong) :=
  (s_cons (s_set 2 sc_changed_or_wrong.nd (d_lst da_nil))
    (s_cons (s_set 3 sc_changed_or_wrong.nd d_int)
    (s_cons (s_set 4 sc_changed_or_wrong.nd d_int)
    (s_cons (s_while (passes_of rfl) (t_cmp op_lt l_cmp (dv 4) (d_callB call_len l_len T.n_len bt_len (da_cons (dv 1) da_nil))) (s_cons (s_set 5 sc_changed_or_wrong.nd (d_call G_part_at (hr.mono (by decide)) T.m_part_at T.F_part_at.kp T.b_part_at tkF (da_cons (dv 1) (da_cons (dv 4) da_nil))))
    (s_cons (s_if (PW.pt (t_or (t_cmp op_isN l_isN (dv 5) d_non) (t_or1 (PW.pt (t_and (t_cmp (op_neA hr.units) l_eq (d_ix (dv 5) d_int) (d_glob T.m_PUT_IN T.v_PUT_IN)) (t_and1 (t_cmp op_gt l_cmp (d_op op_addA l_add (dv 3) (d_ix (dv 5) d_int)) (d_callB call_len l_len T.n_len bt_len (da_cons (dv 0) da_nil))))))))) (s_one (s_ret (d_tup (da_cons d_non (da_cons (dv 4) da_nil))))) s_nil)
    (s_cons (s_asg (dv 5) (g_tup (n := 3) rfl (g_cons (g_name 6 sc_changed_or_wrong.nd) (g_cons (g_name 7 sc_changed_or_wrong.nd) (g_cons (g_name 8 sc_changed_or_wrong.nd) g_nil)))))
    (s_cons (s_if (t_cmp (op_eqA hr.units) l_eq (dv 6) (d_glob T.m_KEPT T.v_KEPT)) (s_one (s_expr (d_bm PySem.F.slot_list_extend PySem.F.type_list_extend mt_extA l_extend (dv 2) (da_cons (d_sl (dv 0) (o_some (dv 3)) (o_some (d_op op_addA l_add (dv 3) (dv 7)))) da_nil)))) s_nil)
    (s_cons (s_if (t_cmp (op_eqA hr.units) l_eq (dv 6) (d_glob T.m_PUT_IN T.v_PUT_IN)) (s_cons (s_expr (d_bm PySem.F.slot_list_extend PySem.F.type_list_extend mt_extA l_extend (dv 2) (da_cons (d_sl (dv 1) (o_some (dv 8)) (o_some (d_op op_addA l_add (dv 8) (dv 7)))) da_nil)))
    (s_one (s_aug 8 sc_changed_or_wrong.nd iop_add l_iadd (dv 7)))) (s_one (s_aug 3 sc_changed_or_wrong.nd iop_add l_iadd (dv 7))))
    (s_one (s_set 4 sc_changed_or_wrong.nd (dv 8)))))))))
    (s_one (s_ret (d_tup (da_cons (d_callTy call_tuple_of l_tuple T.n_tuple bt_tuple (da_cons (dv 2) da_nil)) (da_cons d_non da_nil)))))))))
theorem w_changed (T : Tx K mg A) (G_check_row : FnD P w K mg base 5 T.a_check_row T.fd_check_row [Str.ofString "thing"] (sp_check_row A.NoRow)) (G_changed_or_wrong : FnD P w K mg base 3 T.a_changed_or_wrong T.fd_changed_or_wrong [Str.ofString "one", Str.ofString "change"] sp_changed_or_wrong) (cdv : Value) (An : Around) (outer : List Env) (s : Shared) (H : Hp) (E : XK) (hr : Room 5 (An.deeper (envOfC "changed" (defScope s_changed) s.heap.objs.size T.a_changed cdv))) :
    PSs (cxOf (L2.CX P w) P w K mg base N_changed "changed" (defScope s_changed) T.a_changed cdv An outer s H E) (defBody s_changed) (lowS K (WF E) (r_changed A.NoRow A.BadChange)) :=
  (s_cons (s_expr (d_call G_check_row (hr.mono (by decide)) T.m_check_row T.F_check_row.kp T.b_check_row tkF (da_cons (dv 0) da_nil)))
    (s_cons (s_expr (d_call G_check_row (hr.mono (by decide)) T.m_check_row T.F_check_row.kp T.b_check_row tkF (da_cons (dv 1) da_nil)))
    (s_cons (s_asg (d_call G_changed_or_wrong (hr.mono (by decide)) T.m_changed_or_wrong T.F_changed_or_wrong.kp T.b_changed_or_wrong tkF (da_cons (dv 0) (da_cons (dv 1) da_nil))) (g_tup (n := 2) rfl (g_cons (g_name 2 sc_changed.nd) (g_cons (g_name 3 sc_changed.nd) g_nil))))
    (s_cons (s_if (t_cmp op_notN l_notN (dv 3) d_non) (s_one (s_raise1 rfl tkF T.o_BadChange T.i_BadChange T.t_BadChange (gi_BadChange T) (hr.mono (by decide)) T.bi_BadChange T.m_BadChange (da_cons (dv 3) da_nil))) s_nil)
    (s_one (s_ret (dv 2)))))))
theorem w_common_begin (T : Tx K mg A) (cdv : Value) (An : Around) (outer : List Env) (s : Shared) (H : Hp) (E : XK) (hr : Room 0 (An.deeper (envOfC "common_begin" (defScope s_common_begin) s.heap.objs.size T.a_common_begin cdv))) :
    PSs (cxOf (L2.CX P w) P w K mg base N_common_begin "common_begin" (defScope s_common_begin) T.a_common_begin cdv An outer s H E) (defBody s_common_begin) (lowS K (WF E) r_common_begin) :=
  (s_cons (s_set 2 sc_common_begin.nd d_int)
    (s_cons (s_while (passes_of rfl) (PW.pt (t_and (t_cmp op_lt l_cmp (dv 2) (d_callB (call_min2 rfl) l_min2 T.n_min bt_min (da_cons (d_callB call_len l_len T.n_len bt_len (da_cons (dv 0) da_nil)) (da_cons (d_callB call_len l_len T.n_len bt_len (da_cons (dv 1) da_nil)) da_nil)))) (t_and1 (t_cmp (op_eqA hr.units) l_eq (d_ix (dv 0) (dv 2)) (d_ix (dv 1) (dv 2)))))) (s_one (s_aug 2 sc_common_begin.nd iop_add l_iadd d_int)))
    (s_one (s_ret (dv 2)))))
theorem w_common_end (T : Tx K mg A) (cdv : Value) (An : Around) (outer : List Env) (s : Shared) (H : Hp) (E : XK) (hr : Room 0 (An.deeper (envOfC "common_end" (defScope s_common_end) s.heap.objs.size T.a_common_end cdv))) :
    PSs (cxOf (L2.CX P w) P w K mg base N_common_end "common_end" (defScope s_common_end) T.a_common_end cdv An outer s H E) (defBody s_common_end) (lowS K (WF E) r_common_end) :=
  (s_cons (s_set 3 sc_common_end.nd d_int)
    (s_cons (s_while (passes_of rfl) (PW.pt (t_and (t_cmp op_lt l_cmp (dv 3) (dv 2)) (t_and1 (t_cmp (op_eqA hr.units) l_eq (d_ix (dv 0) (d_op op_sub l_sub (d_op op_sub l_sub (d_callB call_len l_len T.n_len bt_len (da_cons (dv 0) da_nil)) d_int) (dv 3))) (d_ix (dv 1) (d_op op_sub l_sub (d_op op_sub l_sub (d_callB call_len l_len T.n_len bt_len (da_cons (dv 1) da_nil)) d_int) (dv 3))))))) (s_one (s_aug 3 sc_common_end.nd iop_add l_iadd d_int)))
    (s_one (s_ret (dv 3)))))
theorem w_part_row (T : Tx K mg A) (G_figures_of : FnD P w K mg base 1 T.a_figures_of T.fd_figures_of [Str.ofString "number"] sp_figures_of) (cdv : Value) (An : Around) (outer : List Env) (s : Shared) (H : Hp) (E : XK) (hr : Room 1 (An.deeper (envOfC "part_row" (defScope s_part_row) s.heap.objs.size T.a_part_row cdv))) :
    PSs (cxOf (L2.CX P w) P w K mg base N_part_row "part_row" (defScope s_part_row) T.a_part_row cdv An outer s H E) (defBody s_part_row) (lowS K (WF E) r_part_row) :=
  (s_one (s_ret (d_ifExp (t_cmp op_gt l_cmp (dv 1) d_int) (d_call G_figures_of (hr.mono (by decide)) T.m_figures_of T.F_figures_of.kp T.b_figures_of tkF (da_cons (d_op op_addA l_add (d_op op_mulA l_mul d_int (dv 1)) (dv 0)) da_nil)) (d_tup da_nil))))
theorem w_change_of (T : Tx K mg A) (G_common_begin : FnD P w K mg base 1 T.a_common_begin T.fd_common_begin [Str.ofString "one", Str.ofString "other"] sp_common_begin) (G_common_end : FnD P w K mg base 1 T.a_common_end T.fd_common_end [Str.ofString "one", Str.ofString "other", Str.ofString "most"] sp_common_end) (G_part_row : FnD P w K mg base 2 T.a_part_row T.fd_part_row [Str.ofString "kind", Str.ofString "many"] sp_part_row) (cdv : Value) (An : Around) (outer : List Env) (s : Shared) (H : Hp) (E : XK) (hr : Room 2 (An.deeper (envOfC "change_of" (defScope s_change_of) s.heap.objs.size T.a_change_of cdv))) :
    PSs (cxOf (L2.CX P w) P w K mg base N_change_of "change_of" (defScope s_change_of) T.a_change_of cdv An outer s H E) (defBody s_change_of) (lowS K (WF E) r_change_of) :=
  (s_cons (s_set 2 sc_change_of.nd (d_call G_common_begin (hr.mono (by decide)) T.m_common_begin T.F_common_begin.kp T.b_common_begin tkF (da_cons (dv 0) (da_cons (dv 1) da_nil))))
    (s_cons (s_set 3 sc_change_of.nd (d_call G_common_end (hr.mono (by decide)) T.m_common_end T.F_common_end.kp T.b_common_end tkF (da_cons (dv 0) (da_cons (dv 1) (da_cons (d_op op_sub l_sub (d_callB (call_min2 rfl) l_min2 T.n_min bt_min (da_cons (d_callB call_len l_len T.n_len bt_len (da_cons (dv 0) da_nil)) (da_cons (d_callB call_len l_len T.n_len bt_len (da_cons (dv 1) da_nil)) da_nil))) (dv 2)) da_nil)))))
    (s_cons (s_if (t_cmp op_lt l_cmp (dv 2) (d_glob T.m_LEAST_KEPT T.v_LEAST_KEPT)) (s_one (s_set 2 sc_change_of.nd d_int)) s_nil)
    (s_cons (s_if (t_cmp op_lt l_cmp (dv 3) (d_glob T.m_LEAST_KEPT T.v_LEAST_KEPT)) (s_one (s_set 3 sc_change_of.nd d_int)) s_nil)
    (s_cons (s_set 4 sc_change_of.nd (d_sl (dv 1) (o_some (dv 2)) (o_some (d_op op_sub l_sub (d_callB call_len l_len T.n_len bt_len (da_cons (dv 1) da_nil)) (dv 3)))))
    (s_cons (s_set 5 sc_change_of.nd (d_ifExp (t_cmp op_gt l_cmp (dv 3) d_int) (d_op op_sub l_sub (d_op op_sub l_sub (d_callB call_len l_len T.n_len bt_len (da_cons (dv 0) da_nil)) (dv 2)) (dv 3)) d_int))
    (s_cons (s_set 6 sc_change_of.nd (d_op op_addA l_add (d_call G_part_row (hr.mono (by decide)) T.m_part_row T.F_part_row.kp T.b_part_row tkF (da_cons (d_glob T.m_KEPT T.v_KEPT) (da_cons (dv 2) da_nil))) (d_call G_part_row (hr.mono (by decide)) T.m_part_row T.F_part_row.kp T.b_part_row tkF (da_cons (d_glob T.m_LEFT_OUT T.v_LEFT_OUT) (da_cons (dv 5) da_nil)))))
    (s_one (s_ret (d_op op_addA l_add (d_op op_addA l_add (d_op op_addA l_add (dv 6) (d_call G_part_row (hr.mono (by decide)) T.m_part_row T.F_part_row.kp T.b_part_row tkF (da_cons (d_glob T.m_PUT_IN T.v_PUT_IN) (da_cons (d_callB call_len l_len T.n_len bt_len (da_cons (dv 4) da_nil)) da_nil)))) (dv 4)) (d_call G_part_row (hr.mono (by decide)) T.m_part_row T.F_part_row.kp T.b_part_row tkF (da_cons (d_glob T.m_KEPT T.v_KEPT) (da_cons (dv 3) da_nil)))))))))))))
theorem w_change (T : Tx K mg A) (G_check_row : FnD P w K mg base 5 T.a_check_row T.fd_check_row [Str.ofString "thing"] (sp_check_row A.NoRow)) (G_change_of : FnD P w K mg base 3 T.a_change_of T.fd_change_of [Str.ofString "one", Str.ofString "other"] sp_change_of) (cdv : Value) (An : Around) (outer : List Env) (s : Shared) (H : Hp) (E : XK) (hr : Room 5 (An.deeper (envOfC "change" (defScope s_change) s.heap.objs.size T.a_change cdv))) :
    PSs (cxOf (L2.CX P w) P w K mg base N_change "change" (defScope s_change) T.a_change cdv An outer s H E) (defBody s_change) (lowS K (WF E) (r_change A.NoRow)) :=
  (s_cons (s_expr (d_call G_check_row (hr.mono (by decide)) T.m_check_row T.F_check_row.kp T.b_check_row tkF (da_cons (dv 0) da_nil)))
    (s_cons (s_expr (d_call G_check_row (hr.mono (by decide)) T.m_check_row T.F_check_row.kp T.b_check_row tkF (da_cons (dv 1) da_nil)))
    (s_one (s_ret (d_call G_change_of (hr.mono (by decide)) T.m_change_of T.F_change_of.kp T.b_change_of tkF (da_cons (dv 0) (da_cons (dv 1) da_nil)))))))
theorem w_is_change (T : Tx K mg A) (G_is_row : FnD P w K mg base 4 T.a_is_row T.fd_is_row [Str.ofString "thing"] sp_is_row) (G_check_row : FnD P w K mg base 5 T.a_check_row T.fd_check_row [Str.ofString "thing"] (sp_check_row A.NoRow)) (G_changed_or_wrong : FnD P w K mg base 3 T.a_changed_or_wrong T.fd_changed_or_wrong [Str.ofString "one", Str.ofString "change"] sp_changed_or_wrong) (cdv : Value) (An : Around) (outer : List Env) (s : Shared) (H : Hp) (E : XK) (hr : Room 5 (An.deeper (envOfC "is_change" (defScope s_is_change) s.heap.objs.size T.a_is_change cdv))) :
    PSs (cxOf (L2.CX P w) P w K mg base N_is_change "is_change" (defScope s_is_change) T.a_is_change cdv An outer s H E) (defBody s_is_change) (lowS K (WF E) (r_is_change A.NoRow)) :=
  (s_cons (s_expr (d_call G_check_row (hr.mono (by decide)) T.m_check_row T.F_check_row.kp T.b_check_row tkF (da_cons (dv 0) da_nil)))
    (s_cons (s_expr (d_call G_check_row (hr.mono (by decide)) T.m_check_row T.F_check_row.kp T.b_check_row tkF (da_cons (dv 1) da_nil)))
    (s_one (s_ret (d_and (d_call G_is_row (hr.mono (by decide)) T.m_is_row T.F_is_row.kp T.b_is_row tkF (da_cons (dv 2) da_nil)) (d_one (d_cmp (op_eqA hr.units) l_eq (d_call G_changed_or_wrong (hr.mono (by decide)) T.m_changed_or_wrong T.F_changed_or_wrong.kp T.b_changed_or_wrong tkF (da_cons (dv 0) (da_cons (dv 2) da_nil))) (d_tup (da_cons (dv 1) (da_cons d_non da_nil))))))))))
theorem w__law_hand (T : Tx K mg A) (cdv : Value) (An : Around) (outer : List Env) (s : Shared) (H : Hp) (E : XK) (hr : Room 0 (An.deeper (envOfC "_law_hand" (defScope s__law_hand) s.heap.objs.size T.a__law_hand cdv))) :
    PSs (cxOf (L2.CX P w) P w K mg base N__law_hand "_law_hand" (defScope s__law_hand) T.a__law_hand cdv An outer s H E) (defBody s__law_hand) (lowS K (WF E) r__law_hand) :=
  (s_one (s_ret (d_lst (da_cons (d_lc (own := [(Str.ofString "_law_cell", 1)]) rfl sc__law_hand.nd (i_seq (d_sl (dv 0) o_none (o_some d_int))) (blkOk_by (N := N__law_hand) (sc := defScope s__law_hand) (by decide +kernel)) (fun _ _ _ _ _ => (pg_name (i := 1) sc__law_hand.nd rfl (Or.inl rfl))) (ng_name (by decide)) (fun _ _ _ _ _ => c_nil) (fun _ _ _ _ _ => (d_callTy call_int1 l_int T.n_int bt_int (da_cons (dv 1) da_nil)))) (da_cons d_int (da_cons d_int (da_cons (d_op op_addA l_add d_int (d_callB call_len l_len T.n_len bt_len (da_cons (d_sl (dv 0) o_none (o_some d_int)) da_nil))) (da_cons d_int da_nil))))))))
theorem w__law_draw (T : Tx K mg A) (cdv : Value) (An : Around) (outer : List Env) (s : Shared) (H : Hp) (E : XK) (hr : Room 0 (An.deeper (envOfC "_law_draw" (defScope s__law_draw) s.heap.objs.size T.a__law_draw cdv))) :
    PSs (cxOf (L2.CX P w) P w K mg base N__law_draw "_law_draw" (defScope s__law_draw) T.a__law_draw cdv An outer s H E) (defBody s__law_draw) (lowS K (WF E) r__law_draw) :=
  (s_cons (s_if (PW.pt (t_and (t_cmp (op_eqA hr.units) l_eq (d_ix (dv 0) d_int) d_int) (t_and1 (t_cmp op_lt l_cmp (d_ix (dv 0) d_int) (d_callB call_len l_len T.n_len bt_len (da_cons (d_ix (dv 0) d_int) da_nil)))))) (s_cons (s_set 2 sc__law_draw.nd (d_ix (d_ix (dv 0) d_int) (d_ix (dv 0) d_int)))
    (s_cons (s_asg (d_op op_addA l_add (d_ix (dv 0) d_int) d_int) (g_sub (W := W0) set_list l_set (dv 0) d_int))
    (s_cons (s_asg (d_op op_mod l_mod (d_callTy call_int1 l_int T.n_int bt_int (da_cons (d_op op_addA l_add (d_op op_addA l_add (d_op op_mulA l_mul (d_ix (dv 0) d_int) d_int) (d_op op_mulA l_mul (dv 2) d_int)) d_int) da_nil)) d_int) (g_sub (W := W0) set_list l_set (dv 0) d_int))
    (s_one (s_if (t_cmp op_ge l_cmp (dv 2) (d_op op_pow l_pow d_int d_int)) (s_one (s_asg (dv 2) (g_sub (W := W0) set_list l_set (dv 0) d_int))) s_nil))))) s_nil)
    (s_cons (s_if (t_cmp op_gt l_cmp (d_ix (dv 0) d_int) d_int) (s_cons (s_set 3 sc__law_draw.nd (d_op op_mod l_mod (d_callTy call_int1 l_int T.n_int bt_int (da_cons (d_ix (dv 0) d_int) da_nil)) (dv 1)))
    (s_cons (s_asg (d_op op_divP l_div (d_ix (dv 0) d_int) (dv 1)) (g_sub (W := W0) set_list l_set (dv 0) d_int))
    (s_one (s_ret (dv 3))))) s_nil)
    (s_cons (s_asg (d_op op_addA l_add (d_ix (dv 0) d_int) d_int) (g_sub (W := W0) set_list l_set (dv 0) d_int))
    (s_cons (s_set 4 sc__law_draw.nd (d_op op_mod l_mod (d_callTy call_int1 l_int T.n_int bt_int (da_cons (d_op op_mulA l_mul (d_callTy call_int1 l_int T.n_int bt_int (da_cons (d_op op_addA l_add (d_ix (dv 0) d_int) (d_op op_mulA l_mul d_int (d_ix (dv 0) d_int))) da_nil)) d_int) da_nil)) d_int))
    (s_cons (s_set 4 sc__law_draw.nd (d_op op_mod l_mod (d_callTy call_int1 l_int T.n_int bt_int (da_cons (d_op op_mulA l_mul (dv 4) (d_op op_addA l_add (d_op op_divP l_div (dv 4) d_int) d_int)) da_nil)) d_int))
    (s_cons (s_set 4 sc__law_draw.nd (d_op op_mod l_mod (d_callTy call_int1 l_int T.n_int bt_int (da_cons (d_op op_mulA l_mul (dv 4) (d_op op_addA l_add (d_op op_divP l_div (dv 4) d_int) d_int)) da_nil)) d_int))
    (s_one (s_ret (d_op op_mod l_mod (d_callTy call_int1 l_int T.n_int bt_int (da_cons (d_op op_divP l_div (dv 4) d_int) da_nil)) (dv 1))))))))))
theorem w__law_is (T : Tx K mg A) (j : Nat) (hj : 0 ≤ j) (sp_self : SpD) (G__law_is : FnD P w K mg base j T.a__law_is T.fd__law_is [Str.ofString "_law_told", Str.ofString "_law_due"] sp_self) (cdv : Value) (An : Around) (outer : List Env) (s : Shared) (H : Hp) (E : XK) (hr : Room j (An.deeper (envOfC "_law_is" (defScope s__law_is) s.heap.objs.size T.a__law_is cdv))) :
    PSs (cxOf (L2.CX P w) P w K mg base N__law_is "_law_is" (defScope s__law_is) T.a__law_is cdv An outer s H E) (defBody s__law_is) (lowS K (WF E) (r__law_is sp_self)) :=
  (s_cons (s_if (t_val (d_callB call_isiA l_isi T.n_isinstance bt_isinstance (da_cons (dv 1) (da_cons (d_tup (da_cons (d_ty T.n_tuple bt_tuple) (da_cons (d_ty T.n_list bt_list) da_nil))) da_nil)))) (s_cons (s_if (PW.pt (t_or (t_cmp (op_neA hr.units) l_eq (d_callB call_isiA l_isi T.n_isinstance bt_isinstance (da_cons (dv 0) (da_cons (d_ty T.n_tuple bt_tuple) da_nil))) (d_callB call_isiA l_isi T.n_isinstance bt_isinstance (da_cons (dv 1) (da_cons (d_ty T.n_tuple bt_tuple) da_nil)))) (t_or1 (t_not (t_val (d_callB call_isiA l_isi T.n_isinstance bt_isinstance (da_cons (dv 0) (da_cons (d_tup (da_cons (d_ty T.n_tuple bt_tuple) (da_cons (d_ty T.n_list bt_list) da_nil))) da_nil)))))))) (s_one (s_ret d_bl)) s_nil)
    (s_one (s_ret (d_and (d_cmp (op_eqA hr.units) l_eq (d_callB call_len l_len T.n_len bt_len (da_cons (dv 0) da_nil)) (d_callB call_len l_len T.n_len bt_len (da_cons (dv 1) da_nil))) (d_one (d_callB (cr_all rfl) l_all T.n_all bt_all (da_cons (d_lc (own := [(Str.ofString "_law_one", 2), (Str.ofString "_law_two", 3)]) rfl sc__law_is.nd (i_zip T.n_zip (da_cons (dv 0) (da_cons (dv 1) da_nil))) (blkOk_by (N := N__law_is) (sc := defScope s__law_is) (by decide +kernel)) (fun _ _ _ _ _ => (pg_tup rfl (pgs_cons (pg_name (i := 2) sc__law_is.nd rfl (Or.inl rfl)) (pgs_cons (pg_name (i := 3) sc__law_is.nd rfl (Or.inl rfl)) pgs_nil)))) (ng_tup (ngs_cons (ng_name (by decide)) (ngs_cons (ng_name (by decide)) ngs_nil))) (fun _ _ _ _ _ => c_nil) (fun _ _ _ _ _ => (d_call G__law_is hr T.m__law_is T.F__law_is.kp T.b__law_is takes0 (da_cons (dv 2) (da_cons (dv 3) da_nil))))) da_nil))))))) s_nil)
    (s_one (s_ret (d_and (d_cmp (op_eqA hr.units) l_eq (d_callB call_isiA l_isi T.n_isinstance bt_isinstance (da_cons (dv 0) (da_cons (d_ty T.n_bool bt_bool) da_nil))) (d_callB call_isiA l_isi T.n_isinstance bt_isinstance (da_cons (dv 1) (da_cons (d_ty T.n_bool bt_bool) da_nil)))) (d_one (d_cmp (op_eqA hr.units) l_eq (dv 0) (dv 1)))))))
theorem w__law_deep (T : Tx K mg A) (G__law_draw : FnD P w K mg base 1 T.a__law_draw T.fd__law_draw [Str.ofString "_law_hand_here", Str.ofString "_law_many"] sp__law_draw) (cdv : Value) (An : Around) (outer : List Env) (s : Shared) (H : Hp) (E : XK) (hr : Room 1 (An.deeper (envOfC "_law_deep" (defScope s__law_deep) s.heap.objs.size T.a__law_deep cdv))) :
    PSs (cxOf (L2.CX P w) P w K mg base N__law_deep "_law_deep" (defScope s__law_deep) T.a__law_deep cdv An outer s H E) (defBody s__law_deep) (lowS K (WF E) r__law_deep) :=
  (s_cons (s_set 1 sc__law_deep.nd (d_ix (d_lst (da_cons d_non (da_cons d_str (da_cons (d_neg d_int) (da_cons d_dict0 da_nil))))) (d_call G__law_draw (hr.mono (by decide)) T.m__law_draw T.F__law_draw.kp T.b__law_draw tkF (da_cons (dv 0) (da_cons d_int da_nil)))))
    (s_cons (s_for (passes_of rfl) rfl (i_r1 T.n_range (da_cons (d_op op_addA l_add d_int (d_call G__law_draw (hr.mono (by decide)) T.m__law_draw T.F__law_draw.kp T.b__law_draw tkF (da_cons (dv 0) (da_cons d_int da_nil)))) da_nil)) (g_name 2 sc__law_deep.nd) (s_one (s_set 1 sc__law_deep.nd (d_ix (d_lst (da_cons (d_tup (da_cons (dv 1) da_nil)) (da_cons (d_lst (da_cons (dv 1) da_nil)) (da_cons (d_sl (d_tup (da_cons (dv 1) (da_cons (dv 1) da_nil))) o_none (o_some d_int)) (da_cons (d_dict1 d_int (dv 1)) da_nil))))) (d_call G__law_draw (hr.mono (by decide)) T.m__law_draw T.F__law_draw.kp T.b__law_draw tkF (da_cons (dv 0) (da_cons d_int da_nil)))))))
    (s_one (s_ret (dv 1)))))
theorem w__law_whole (T : Tx K mg A) (cdv : Value) (An : Around) (outer : List Env) (s : Shared) (H : Hp) (E : XK) (hr : Room 0 (An.deeper (envOfC "_law_whole" (defScope s__law_whole) s.heap.objs.size T.a__law_whole cdv))) :
    PSs (cxOf (L2.CX P w) P w K mg base N__law_whole "_law_whole" (defScope s__law_whole) T.a__law_whole cdv An outer s H E) (defBody s__law_whole) (lowS K (WF E) r__law_whole) :=
  (s_cons (s_set 1 sc__law_whole.nd (d_lst da_nil))
    (s_cons (s_for (passes_of rfl) rfl (i_r1 T.n_range (da_cons d_int da_nil)) (g_name 2 sc__law_whole.nd) (s_cons (s_if (t_cmp op_lt l_cmp (dv 0) d_int) (s_one s_break) s_nil)
    (s_cons (s_expr (d_bm PySem.F.slot_list_append PySem.F.type_list_append mt_append l_append (dv 1) (da_cons (d_op op_addA l_add (d_op op_mod l_mod (d_callTy call_int1 l_int T.n_int bt_int (da_cons (dv 0) da_nil)) d_int) d_int) da_nil)))
    (s_one (s_set 0 sc__law_whole.nd (d_op op_divP l_div (dv 0) d_int))))))
    (s_one (s_ret (d_callTy call_tuple_of l_tuple T.n_tuple bt_tuple (da_cons (d_op op_addA l_add (dv 1) (d_lst (da_cons (dv 0) da_nil))) da_nil))))))
theorem w__law_read (T : Tx K mg A) (cdv : Value) (An : Around) (outer : List Env) (s : Shared) (H : Hp) (E : XK) (hr : Room 0 (An.deeper (envOfC "_law_read" (defScope s__law_read) s.heap.objs.size T.a__law_read cdv))) :
    PSs (cxOf (L2.CX P w) P w K mg base N__law_read "_law_read" (defScope s__law_read) T.a__law_read cdv An outer s H E) (defBody s__law_read) (lowS K (WF E) r__law_read) :=
  (s_cons (s_for (passes_of rfl) rfl (i_r1 T.n_range (da_cons d_int da_nil)) (g_name 2 sc__law_read.nd) (s_cons (s_if (t_cmp op_ge l_cmp (d_op op_addA l_add (dv 1) (dv 2)) (d_callB call_len l_len T.n_len bt_len (da_cons (dv 0) da_nil))) (s_one (s_ret d_non)) s_nil)
    (s_one (s_if (t_cmp op_lt l_cmp (d_ix (dv 0) (d_op op_addA l_add (dv 1) (dv 2))) d_int) (s_cons (s_if (PW.pt (t_and (t_cmp op_gt l_cmp (dv 2) d_int) (t_and1 (t_cmp (op_eqA hr.units) l_eq (d_ix (dv 0) (d_op op_addA l_add (dv 1) (dv 2))) d_int)))) (s_one (s_ret d_non)) s_nil)
    (s_cons (s_set 3 sc__law_read.nd d_int)
    (s_cons (s_for (passes_of rfl) rfl (i_r3 T.n_range (da_cons (d_op op_addA l_add (dv 1) (dv 2)) (da_cons (d_op op_sub l_sub (dv 1) d_int) (da_cons (d_neg d_int) da_nil)))) (g_name 4 sc__law_read.nd) (s_one (s_set 3 sc__law_read.nd (d_op op_addA l_add (d_op op_mulA l_mul (dv 3) d_int) (d_op op_mod l_mod (d_callTy call_int1 l_int T.n_int bt_int (da_cons (d_ix (dv 0) (dv 4)) da_nil)) d_int)))))
    (s_cons (s_if (t_cmp op_ge l_cmp (dv 3) (d_op op_pow l_pow d_int d_int)) (s_one (s_ret d_non)) s_nil)
    (s_one (s_ret (d_tup (da_cons (dv 3) (da_cons (d_op op_addA l_add (d_op op_addA l_add (dv 1) (dv 2)) d_int) da_nil))))))))) s_nil))))
    (s_one (s_ret d_non)))
theorem w__law_byte (T : Tx K mg A) (G__law_draw : FnD P w K mg base 1 T.a__law_draw T.fd__law_draw [Str.ofString "_law_hand_here", Str.ofString "_law_many"] sp__law_draw) (cdv : Value) (An : Around) (outer : List Env) (s : Shared) (H : Hp) (E : XK) (hr : Room 1 (An.deeper (envOfC "_law_byte" (defScope s__law_byte) s.heap.objs.size T.a__law_byte cdv))) :
    PSs (cxOf (L2.CX P w) P w K mg base N__law_byte "_law_byte" (defScope s__law_byte) T.a__law_byte cdv An outer s H E) (defBody s__law_byte) (lowS K (WF E) r__law_byte) :=
  (s_cons (s_if (t_cmp (op_eqA hr.units) l_eq (d_call G__law_draw (hr.mono (by decide)) T.m__law_draw T.F__law_draw.kp T.b__law_draw tkF (da_cons (dv 0) (da_cons d_int da_nil))) d_int) (s_one (s_ret (d_ix (d_lst (da_cons d_int (da_cons d_int (da_cons d_int (da_cons d_int (da_cons d_int (da_cons d_int da_nil))))))) (d_call G__law_draw (hr.mono (by decide)) T.m__law_draw T.F__law_draw.kp T.b__law_draw tkF (da_cons (dv 0) (da_cons d_int da_nil)))))) s_nil)
    (s_one (s_ret (d_call G__law_draw (hr.mono (by decide)) T.m__law_draw T.F__law_draw.kp T.b__law_draw tkF (da_cons (dv 0) (da_cons d_int da_nil))))))
theorem w__law_bytes (T : Tx K mg A) (G__law_draw : FnD P w K mg base 1 T.a__law_draw T.fd__law_draw [Str.ofString "_law_hand_here", Str.ofString "_law_many"] sp__law_draw) (G__law_byte : FnD P w K mg base 2 T.a__law_byte T.fd__law_byte [Str.ofString "_law_hand_here"] sp__law_byte) (cdv : Value) (An : Around) (outer : List Env) (s : Shared) (H : Hp) (E : XK) (hr : Room 2 (An.deeper (envOfC "_law_bytes" (defScope s__law_bytes) s.heap.objs.size T.a__law_bytes cdv))) :
    PSs (cxOf (L2.CX P w) P w K mg base N__law_bytes "_law_bytes" (defScope s__law_bytes) T.a__law_bytes cdv An outer s H E) (defBody s__law_bytes) (lowS K (WF E) r__law_bytes) :=
  (s_one (s_ret (d_callTy call_tuple_of l_tuple T.n_tuple bt_tuple (da_cons (d_lc (own := [(Str.ofString "_law_turn", 2)]) rfl sc__law_bytes.nd (i_r1 T.n_range (da_cons (d_call G__law_draw (hr.mono (by decide)) T.m__law_draw T.F__law_draw.kp T.b__law_draw tkF (da_cons (dv 0) (da_cons (d_op op_addA l_add (dv 1) d_int) da_nil))) da_nil)) (blkOk_by (N := N__law_bytes) (sc := defScope s__law_bytes) (by decide +kernel)) (fun _ _ _ _ _ => (pg_name (i := 2) sc__law_bytes.nd rfl (Or.inl rfl))) (ng_name (by decide)) (fun _ _ _ _ _ => c_nil) (fun _ _ _ _ _ => (d_call G__law_byte (hr.mono (by decide)) T.m__law_byte T.F__law_byte.kp T.b__law_byte takes0 (da_cons (dv 0) da_nil)))) da_nil))))
theorem w__law_spoilt (T : Tx K mg A) (G__law_draw : FnD P w K mg base 1 T.a__law_draw T.fd__law_draw [Str.ofString "_law_hand_here", Str.ofString "_law_many"] sp__law_draw) (G__law_byte : FnD P w K mg base 2 T.a__law_byte T.fd__law_byte [Str.ofString "_law_hand_here"] sp__law_byte) (G__law_bytes : FnD P w K mg base 3 T.a__law_bytes T.fd__law_bytes [Str.ofString "_law_hand_here", Str.ofString "_law_most"] sp__law_bytes) (cdv : Value) (An : Around) (outer : List Env) (s : Shared) (H : Hp) (E : XK) (hr : Room 3 (An.deeper (envOfC "_law_spoilt" (defScope s__law_spoilt) s.heap.objs.size T.a__law_spoilt cdv))) :
    PSs (cxOf (L2.CX P w) P w K mg base N__law_spoilt "_law_spoilt" (defScope s__law_spoilt) T.a__law_spoilt cdv An outer s H E) (defBody s__law_spoilt) (lowS K (WF E) r__law_spoilt) :=
  (s_cons (s_set 2 sc__law_spoilt.nd (d_call G__law_draw (hr.mono (by decide)) T.m__law_draw T.F__law_draw.kp T.b__law_draw tkF (da_cons (dv 0) (da_cons d_int da_nil))))
    (s_cons (s_set 3 sc__law_spoilt.nd (d_call G__law_draw (hr.mono (by decide)) T.m__law_draw T.F__law_draw.kp T.b__law_draw tkF (da_cons (dv 0) (da_cons (d_op op_addA l_add (d_callB call_len l_len T.n_len bt_len (da_cons (dv 1) da_nil)) d_int) da_nil))))
    (s_cons (s_if (t_cmp (op_eqA hr.units) l_eq (dv 2) d_int) (s_one (s_ret (d_op op_addA l_add (d_op op_addA l_add (d_sl (dv 1) o_none (o_some (dv 3))) (d_tup (da_cons (d_call G__law_byte (hr.mono (by decide)) T.m__law_byte T.F__law_byte.kp T.b__law_byte tkF (da_cons (dv 0) da_nil)) da_nil))) (d_sl (dv 1) (o_some (d_op op_addA l_add (dv 3) d_int)) o_none)))) s_nil)
    (s_cons (s_if (t_cmp (op_eqA hr.units) l_eq (dv 2) d_int) (s_one (s_ret (d_op op_addA l_add (d_op op_addA l_add (d_sl (dv 1) o_none (o_some (dv 3))) (d_tup (da_cons (d_call G__law_byte (hr.mono (by decide)) T.m__law_byte T.F__law_byte.kp T.b__law_byte tkF (da_cons (dv 0) da_nil)) da_nil))) (d_sl (dv 1) (o_some (dv 3)) o_none)))) s_nil)
    (s_cons (s_if (t_cmp (op_eqA hr.units) l_eq (dv 2) d_int) (s_one (s_ret (d_op op_addA l_add (d_sl (dv 1) o_none (o_some (dv 3))) (d_sl (dv 1) (o_some (d_op op_addA l_add (dv 3) d_int)) o_none)))) s_nil)
    (s_cons (s_if (t_cmp (op_eqA hr.units) l_eq (dv 2) d_int) (s_one (s_ret (d_sl (dv 1) o_none (o_some (dv 3))))) s_nil)
    (s_one (s_ret (d_op op_addA l_add (dv 1) (d_call G__law_bytes (hr.mono (by decide)) T.m__law_bytes T.F__law_bytes.kp T.b__law_bytes tkF (da_cons (dv 0) (da_cons d_int da_nil))))))))))))
theorem w__law_become (T : Tx K mg A) (G__law_read : FnD P w K mg base 1 T.a__law_read T.fd__law_read [Str.ofString "_law_row", Str.ofString "_law_at"] sp__law_read) (cdv : Value) (An : Around) (outer : List Env) (s : Shared) (H : Hp) (E : XK) (hr : Room 1 (An.deeper (envOfC "_law_become" (defScope s__law_become) s.heap.objs.size T.a__law_become cdv))) :
    PSs (cxOf (L2.CX P w) P w K mg base N__law_become "_law_become" (defScope s__law_become) T.a__law_become cdv An outer s H E) (defBody s__law_become) (lowS K (WF E) r__law_become) :=
  (s_cons (s_set 2 sc__law_become.nd (d_lst da_nil))
    (s_cons (s_set 3 sc__law_become.nd d_int)
    (s_cons (s_set 4 sc__law_become.nd d_int)
    (s_cons (s_for (passes_of rfl) rfl (i_r1 T.n_range (da_cons (d_op op_addA l_add (d_callB call_len l_len T.n_len bt_len (da_cons (dv 1) da_nil)) d_int) da_nil)) (g_name 5 sc__law_become.nd) (s_cons (s_if (t_cmp (op_eqA hr.units) l_eq (dv 4) (d_callB call_len l_len T.n_len bt_len (da_cons (dv 1) da_nil))) (s_one (s_ret (d_tup (da_cons (d_callTy call_tuple_of l_tuple T.n_tuple bt_tuple (da_cons (dv 2) da_nil)) (da_cons (d_neg d_int) da_nil))))) s_nil)
    (s_cons (s_set 6 sc__law_become.nd (d_call G__law_read (hr.mono (by decide)) T.m__law_read T.F__law_read.kp T.b__law_read tkF (da_cons (dv 1) (da_cons (dv 4) da_nil))))
    (s_cons (s_if (PW.pt (t_or (t_cmp op_isN l_isN (dv 6) d_non) (t_or1 (t_cmp op_lt l_cmp (d_ix (dv 6) d_int) d_int)))) (s_one (s_ret (d_tup (da_cons d_non (da_cons (dv 4) da_nil))))) s_nil)
    (s_cons (s_set 7 sc__law_become.nd (d_op op_divP l_div (d_ix (dv 6) d_int) d_int))
    (s_cons (s_set 8 sc__law_become.nd (d_op op_mod l_mod (d_callTy call_int1 l_int T.n_int bt_int (da_cons (d_ix (dv 6) d_int) da_nil)) d_int))
    (s_one (s_if (t_cmp (op_eqA hr.units) l_eq (dv 8) d_int) (s_cons (s_if (t_cmp op_gt l_cmp (d_op op_addA l_add (d_ix (dv 6) d_int) (dv 7)) (d_callB call_len l_len T.n_len bt_len (da_cons (dv 1) da_nil))) (s_one (s_ret (d_tup (da_cons d_non (da_cons (dv 4) da_nil))))) s_nil)
    (s_cons (s_expr (d_bm PySem.F.slot_list_extend PySem.F.type_list_extend mt_extA l_extend (dv 2) (da_cons (d_sl (dv 1) (o_some (d_ix (dv 6) d_int)) (o_some (d_op op_addA l_add (d_ix (dv 6) d_int) (dv 7)))) da_nil)))
    (s_one (s_set 4 sc__law_become.nd (d_op op_addA l_add (d_ix (dv 6) d_int) (dv 7)))))) (s_cons (s_if (t_cmp op_gt l_cmp (d_op op_addA l_add (dv 3) (dv 7)) (d_callB call_len l_len T.n_len bt_len (da_cons (dv 0) da_nil))) (s_one (s_ret (d_tup (da_cons d_non (da_cons (dv 4) da_nil))))) s_nil)
    (s_cons (s_if (t_cmp (op_eqA hr.units) l_eq (dv 8) d_int) (s_one (s_expr (d_bm PySem.F.slot_list_extend PySem.F.type_list_extend mt_extA l_extend (dv 2) (da_cons (d_sl (dv 0) (o_some (dv 3)) (o_some (d_op op_addA l_add (dv 3) (dv 7)))) da_nil)))) s_nil)
    (s_cons (s_set 3 sc__law_become.nd (d_op op_addA l_add (dv 3) (dv 7)))
    (s_one (s_set 4 sc__law_become.nd (d_ix (dv 6) d_int))))))))))))))
    (s_one (s_ret (d_tup (da_cons d_non (da_cons (dv 4) da_nil)))))))))
theorem w__law_changed_told (T : Tx K mg A) (G_changed : FnD P w K mg base 6 T.a_changed T.fd_changed [Str.ofString "one", Str.ofString "change"] (sp_changed A.NoRow A.BadChange)) (cdv : Value) (An : Around) (outer : List Env) (s : Shared) (H : Hp) (E : XK) (hr : Room 6 (An.deeper (envOfC "_law_changed_told" (defScope s__law_changed_told) s.heap.objs.size T.a__law_changed_told cdv))) :
    PSs (cxOf (L2.CX P w) P w K mg base N__law_changed_told "_law_changed_told" (defScope s__law_changed_told) T.a__law_changed_told cdv An outer s H E) (defBody s__law_changed_told) (lowS K (WF E) (r__law_changed_told A.WorldError A.NoRow A.BadChange)) :=
  (s_one (s_take 2 sc__law_changed_told.nd (nm_own T.m_BadChange) (tabs_cons T.e_NoRow_BadChange (tabs_cons T.e_BadChange_BadChange tabs_nil)) (fun W2 pn2 xe2 tk2 => (s_one (s_ret (d_tup (da_cons d_str (da_cons (d_call G_changed (hr.mono (by decide)) T.m_changed T.F_changed.kp T.b_changed tk2 (da_cons (dv 0) (da_cons (dv 1) da_nil))) da_nil)))))) (fun ea oe ecls eda pn hz hf => (s_one (s_ret (d_tup (da_cons d_str (da_cons (d_xf T.z_BadChange T.nf_BadChange hz hf (dv 2)) da_nil))))))))
theorem w__law_is_told (T : Tx K mg A) (G_is_change : FnD P w K mg base 6 T.a_is_change T.fd_is_change [Str.ofString "one", Str.ofString "other", Str.ofString "thing"] (sp_is_change A.NoRow)) (G__law_is : FnD P w K mg base 4 T.a__law_is T.fd__law_is [Str.ofString "_law_told", Str.ofString "_law_due"] (sp__law_is 4)) (G__law_become : FnD P w K mg base 2 T.a__law_become T.fd__law_become [Str.ofString "_law_one", Str.ofString "_law_some"] sp__law_become) (G__law_changed_told : FnD P w K mg base 7 T.a__law_changed_told T.fd__law_changed_told [Str.ofString "_law_one", Str.ofString "_law_some"] (sp__law_changed_told A.WorldError A.NoRow A.BadChange)) (cdv : Value) (An : Around) (outer : List Env) (s : Shared) (H : Hp) (E : XK) (hr : Room 7 (An.deeper (envOfC "_law_is_told" (defScope s__law_is_told) s.heap.objs.size T.a__law_is_told cdv))) :
    PSs (cxOf (L2.CX P w) P w K mg base N__law_is_told "_law_is_told" (defScope s__law_is_told) T.a__law_is_told cdv An outer s H E) (defBody s__law_is_told) (lowS K (WF E) (r__law_is_told A.WorldError A.NoRow A.BadChange)) :=
  (s_cons (s_asg (d_call G__law_become (hr.mono (by decide)) T.m__law_become T.F__law_become.kp T.b__law_become tkF (da_cons (dv 0) (da_cons (dv 2) da_nil))) (g_tup (n := 2) rfl (g_cons (g_name 3 sc__law_is_told.nd) (g_cons (g_name 4 sc__law_is_told.nd) g_nil))))
    (s_cons (s_set 5 sc__law_is_told.nd (d_call G__law_changed_told (hr.mono (by decide)) T.m__law_changed_told T.F__law_changed_told.kp T.b__law_changed_told tkF (da_cons (dv 0) (da_cons (dv 2) da_nil))))
    (s_cons (s_if (t_cmp op_isN l_isN (dv 3) d_non) (s_one (s_if (t_not (t_val (d_call G__law_is (hr.mono (by decide)) T.m__law_is T.F__law_is.kp T.b__law_is tkF (da_cons (dv 5) (da_cons (d_tup (da_cons d_str (da_cons (dv 4) da_nil))) da_nil))))) (s_one (s_ret d_bl)) s_nil)) (s_one (s_if (t_not (t_val (d_call G__law_is (hr.mono (by decide)) T.m__law_is T.F__law_is.kp T.b__law_is tkF (da_cons (dv 5) (da_cons (d_tup (da_cons d_str (da_cons (dv 3) da_nil))) da_nil))))) (s_one (s_ret d_bl)) s_nil)))
    (s_one (s_ret (d_call G__law_is (hr.mono (by decide)) T.m__law_is T.F__law_is.kp T.b__law_is tkF (da_cons (d_call G_is_change (hr.mono (by decide)) T.m_is_change T.F_is_change.kp T.b_is_change tkF (da_cons (dv 0) (da_cons (dv 1) (da_cons (dv 2) da_nil)))) (da_cons (d_and (d_cmp op_notN l_notN (dv 3) d_non) (d_one (d_cmp (op_eqA hr.units) l_eq (dv 3) (dv 1)))) da_nil))))))))
theorem w__law_drawn_change (T : Tx K mg A) (G__law_draw : FnD P w K mg base 1 T.a__law_draw T.fd__law_draw [Str.ofString "_law_hand_here", Str.ofString "_law_many"] sp__law_draw) (G__law_whole : FnD P w K mg base 1 T.a__law_whole T.fd__law_whole [Str.ofString "_law_number"] sp__law_whole) (G__law_byte : FnD P w K mg base 2 T.a__law_byte T.fd__law_byte [Str.ofString "_law_hand_here"] sp__law_byte) (cdv : Value) (An : Around) (outer : List Env) (s : Shared) (H : Hp) (E : XK) (hr : Room 2 (An.deeper (envOfC "_law_drawn_change" (defScope s__law_drawn_change) s.heap.objs.size T.a__law_drawn_change cdv))) :
    PSs (cxOf (L2.CX P w) P w K mg base N__law_drawn_change "_law_drawn_change" (defScope s__law_drawn_change) T.a__law_drawn_change cdv An outer s H E) (defBody s__law_drawn_change) (lowS K (WF E) r__law_drawn_change) :=
  (s_cons (s_set 2 sc__law_drawn_change.nd (d_tup da_nil))
    (s_cons (s_set 3 sc__law_drawn_change.nd d_int)
    (s_cons (s_for (passes_of rfl) rfl (i_r1 T.n_range (da_cons (d_call G__law_draw (hr.mono (by decide)) T.m__law_draw T.F__law_draw.kp T.b__law_draw tkF (da_cons (dv 0) (da_cons d_int da_nil))) da_nil)) (g_name 4 sc__law_drawn_change.nd) (s_cons (s_set 5 sc__law_drawn_change.nd (d_call G__law_draw (hr.mono (by decide)) T.m__law_draw T.F__law_draw.kp T.b__law_draw tkF (da_cons (dv 0) (da_cons d_int da_nil))))
    (s_one (s_if (t_cmp (op_eqA hr.units) l_eq (dv 5) d_int) (s_cons (s_set 6 sc__law_drawn_change.nd (d_callTy call_tuple_of l_tuple T.n_tuple bt_tuple (da_cons (d_lc (own := [(Str.ofString "_law_place", 8)]) rfl sc__law_drawn_change.nd (i_r1 T.n_range (da_cons (d_op op_addA l_add d_int (d_call G__law_draw (hr.mono (by decide)) T.m__law_draw T.F__law_draw.kp T.b__law_draw tkF (da_cons (dv 0) (da_cons d_int da_nil)))) da_nil)) (blkOk_by (N := N__law_drawn_change) (sc := defScope s__law_drawn_change) (by decide +kernel)) (fun _ _ _ _ _ => (pg_name (i := 8) sc__law_drawn_change.nd rfl (Or.inl rfl))) (ng_name (by decide)) (fun _ _ _ _ _ => c_nil) (fun _ _ _ _ _ => (d_call G__law_byte (hr.mono (by decide)) T.m__law_byte T.F__law_byte.kp T.b__law_byte takes0 (da_cons (dv 0) da_nil)))) da_nil)))
    (s_one (s_set 2 sc__law_drawn_change.nd (d_op op_addA l_add (d_op op_addA l_add (dv 2) (d_call G__law_whole (hr.mono (by decide)) T.m__law_whole T.F__law_whole.kp T.b__law_whole tkF (da_cons (d_op op_addA l_add (d_op op_mulA l_mul d_int (d_callB call_len l_len T.n_len bt_len (da_cons (dv 6) da_nil))) d_int) da_nil))) (dv 6))))) (s_cons (s_set 7 sc__law_drawn_change.nd (d_call G__law_draw (hr.mono (by decide)) T.m__law_draw T.F__law_draw.kp T.b__law_draw tkF (da_cons (dv 0) (da_cons (d_op op_addA l_add (d_op op_sub l_sub (d_callB call_len l_len T.n_len bt_len (da_cons (dv 1) da_nil)) (dv 3)) d_int) da_nil))))
    (s_cons (s_if (t_cmp (op_eqA hr.units) l_eq (d_call G__law_draw (hr.mono (by decide)) T.m__law_draw T.F__law_draw.kp T.b__law_draw tkF (da_cons (dv 0) (da_cons d_int da_nil))) d_int) (s_one (s_set 7 sc__law_drawn_change.nd (d_ix (d_lst (da_cons d_int (da_cons (d_op op_addA l_add (d_op op_sub l_sub (d_callB call_len l_len T.n_len bt_len (da_cons (dv 1) da_nil)) (dv 3)) d_int) (da_cons (d_op op_pow l_pow d_int d_int) da_nil)))) (d_call G__law_draw (hr.mono (by decide)) T.m__law_draw T.F__law_draw.kp T.b__law_draw tkF (da_cons (dv 0) (da_cons d_int da_nil)))))) s_nil)
    (s_cons (s_if (PW.pt (t_or (t_cmp op_gt l_cmp (dv 7) d_int) (t_or1 (t_cmp (op_eqA hr.units) l_eq (d_call G__law_draw (hr.mono (by decide)) T.m__law_draw T.F__law_draw.kp T.b__law_draw tkF (da_cons (dv 0) (da_cons d_int da_nil))) d_int)))) (s_one (s_set 2 sc__law_drawn_change.nd (d_op op_addA l_add (dv 2) (d_call G__law_whole (hr.mono (by decide)) T.m__law_whole T.F__law_whole.kp T.b__law_whole tkF (da_cons (d_op op_addA l_add (d_op op_mulA l_mul d_int (dv 7)) (dv 5)) da_nil))))) s_nil)
    (s_one (s_set 3 sc__law_drawn_change.nd (d_callB (call_min2 rfl) l_min2 T.n_min bt_min (da_cons (d_callB call_len l_len T.n_len bt_len (da_cons (dv 1) da_nil)) (da_cons (d_op op_addA l_add (dv 3) (dv 7)) da_nil))))))))))))
    (s_one (s_ret (dv 2))))))
theorem w__law_spliced (T : Tx K mg A) (G__law_draw : FnD P w K mg base 1 T.a__law_draw T.fd__law_draw [Str.ofString "_law_hand_here", Str.ofString "_law_many"] sp__law_draw) (G__law_bytes : FnD P w K mg base 3 T.a__law_bytes T.fd__law_bytes [Str.ofString "_law_hand_here", Str.ofString "_law_most"] sp__law_bytes) (cdv : Value) (An : Around) (outer : List Env) (s : Shared) (H : Hp) (E : XK) (hr : Room 3 (An.deeper (envOfC "_law_spliced" (defScope s__law_spliced) s.heap.objs.size T.a__law_spliced cdv))) :
    PSs (cxOf (L2.CX P w) P w K mg base N__law_spliced "_law_spliced" (defScope s__law_spliced) T.a__law_spliced cdv An outer s H E) (defBody s__law_spliced) (lowS K (WF E) r__law_spliced) :=
  (s_cons (s_for (passes_of rfl) rfl (i_r1 T.n_range (da_cons (d_call G__law_draw (hr.mono (by decide)) T.m__law_draw T.F__law_draw.kp T.b__law_draw tkF (da_cons (dv 0) (da_cons d_int da_nil))) da_nil)) (g_name 2 sc__law_spliced.nd) (s_cons (s_set 3 sc__law_spliced.nd (d_call G__law_draw (hr.mono (by decide)) T.m__law_draw T.F__law_draw.kp T.b__law_draw tkF (da_cons (dv 0) (da_cons (d_op op_addA l_add (d_callB call_len l_len T.n_len bt_len (da_cons (dv 1) da_nil)) d_int) da_nil))))
    (s_cons (s_set 4 sc__law_spliced.nd (d_op op_addA l_add (dv 3) (d_call G__law_draw (hr.mono (by decide)) T.m__law_draw T.F__law_draw.kp T.b__law_draw tkF (da_cons (dv 0) (da_cons (d_op op_addA l_add (d_callB (call_min2 rfl) l_min2 T.n_min bt_min (da_cons d_int (da_cons (d_op op_sub l_sub (d_callB call_len l_len T.n_len bt_len (da_cons (dv 1) da_nil)) (dv 3)) da_nil))) d_int) da_nil)))))
    (s_one (s_set 1 sc__law_spliced.nd (d_op op_addA l_add (d_op op_addA l_add (d_sl (dv 1) o_none (o_some (dv 3))) (d_call G__law_bytes (hr.mono (by decide)) T.m__law_bytes T.F__law_bytes.kp T.b__law_bytes tkF (da_cons (dv 0) (da_cons d_int da_nil)))) (d_sl (dv 1) (o_some (dv 4)) o_none)))))))
    (s_one (s_ret (dv 1))))
theorem w__law_is_path (T : Tx K mg A) (G_changed : FnD P w K mg base 6 T.a_changed T.fd_changed [Str.ofString "one", Str.ofString "change"] (sp_changed A.NoRow A.BadChange)) (G_change : FnD P w K mg base 6 T.a_change T.fd_change [Str.ofString "one", Str.ofString "other"] (sp_change A.NoRow)) (G_is_change : FnD P w K mg base 6 T.a_is_change T.fd_is_change [Str.ofString "one", Str.ofString "other", Str.ofString "thing"] (sp_is_change A.NoRow)) (G__law_is : FnD P w K mg base 4 T.a__law_is T.fd__law_is [Str.ofString "_law_told", Str.ofString "_law_due"] (sp__law_is 4)) (G__law_become : FnD P w K mg base 2 T.a__law_become T.fd__law_become [Str.ofString "_law_one", Str.ofString "_law_some"] sp__law_become) (cdv : Value) (An : Around) (outer : List Env) (s : Shared) (H : Hp) (E : XK) (hr : Room 6 (An.deeper (envOfC "_law_is_path" (defScope s__law_is_path) s.heap.objs.size T.a__law_is_path cdv))) :
    PSs (cxOf (L2.CX P w) P w K mg base N__law_is_path "_law_is_path" (defScope s__law_is_path) T.a__law_is_path cdv An outer s H E) (defBody s__law_is_path) (lowS K (WF E) (r__law_is_path A.NoRow A.BadChange)) :=
  (s_cons (s_set 2 sc__law_is_path.nd (d_call G_change (hr.mono (by decide)) T.m_change T.F_change.kp T.b_change tkF (da_cons (dv 0) (da_cons (dv 1) da_nil))))
    (s_cons (s_set 3 sc__law_is_path.nd (d_op op_addA l_add (d_callB call_len l_len T.n_len bt_len (da_cons (dv 1) da_nil)) d_int))
    (s_cons (s_if (t_cmp (op_eqA hr.units) l_eq (dv 0) (dv 1)) (s_one (s_set 3 sc__law_is_path.nd d_int)) s_nil)
    (s_cons (s_if (PW.pt (t_or (t_not (t_val (d_callB call_isiA l_isi T.n_isinstance bt_isinstance (da_cons (dv 2) (da_cons (d_ty T.n_tuple bt_tuple) da_nil))))) (t_or (t_cmp op_gt l_cmp (d_callB call_len l_len T.n_len bt_len (da_cons (dv 2) da_nil)) (dv 3)) (t_or1 (t_not (t_val (d_call G__law_is (hr.mono (by decide)) T.m__law_is T.F__law_is.kp T.b__law_is tkF (da_cons (d_call G_is_change (hr.mono (by decide)) T.m_is_change T.F_is_change.kp T.b_is_change tkF (da_cons (dv 0) (da_cons (dv 1) (da_cons (dv 2) da_nil)))) (da_cons d_bl da_nil))))))))) (s_one (s_ret d_bl)) s_nil)
    (s_one (s_ret (d_and (d_cmp (op_eqA hr.units) l_eq (d_call G__law_become (hr.mono (by decide)) T.m__law_become T.F__law_become.kp T.b__law_become tkF (da_cons (dv 0) (da_cons (dv 2) da_nil))) (d_tup (da_cons (dv 1) (da_cons (d_neg d_int) da_nil)))) (d_one (d_call G__law_is (hr.mono (by decide)) T.m__law_is T.F__law_is.kp T.b__law_is tkF (da_cons (d_call G_changed (hr.mono (by decide)) T.m_changed T.F_changed.kp T.b_changed tkF (da_cons (dv 0) (da_cons (dv 2) da_nil))) (da_cons (dv 1) da_nil)))))))))))
theorem w_law (T : Tx K mg A) (G_changed : FnD P w K mg base 6 T.a_changed T.fd_changed [Str.ofString "one", Str.ofString "change"] (sp_changed A.NoRow A.BadChange)) (G_change : FnD P w K mg base 6 T.a_change T.fd_change [Str.ofString "one", Str.ofString "other"] (sp_change A.NoRow)) (G_is_change : FnD P w K mg base 6 T.a_is_change T.fd_is_change [Str.ofString "one", Str.ofString "other", Str.ofString "thing"] (sp_is_change A.NoRow)) (G__law_hand : FnD P w K mg base 1 T.a__law_hand T.fd__law_hand [Str.ofString "_law_script"] sp__law_hand) (G__law_draw : FnD P w K mg base 1 T.a__law_draw T.fd__law_draw [Str.ofString "_law_hand_here", Str.ofString "_law_many"] sp__law_draw) (G__law_is : FnD P w K mg base 4 T.a__law_is T.fd__law_is [Str.ofString "_law_told", Str.ofString "_law_due"] (sp__law_is 4)) (G__law_deep : FnD P w K mg base 2 T.a__law_deep T.fd__law_deep [Str.ofString "_law_hand_here"] sp__law_deep) (G__law_bytes : FnD P w K mg base 3 T.a__law_bytes T.fd__law_bytes [Str.ofString "_law_hand_here", Str.ofString "_law_most"] sp__law_bytes) (G__law_spoilt : FnD P w K mg base 4 T.a__law_spoilt T.fd__law_spoilt [Str.ofString "_law_hand_here", Str.ofString "_law_row"] sp__law_spoilt) (G__law_become : FnD P w K mg base 2 T.a__law_become T.fd__law_become [Str.ofString "_law_one", Str.ofString "_law_some"] sp__law_become) (G__law_is_told : FnD P w K mg base 8 T.a__law_is_told T.fd__law_is_told [Str.ofString "_law_one", Str.ofString "_law_other", Str.ofString "_law_some"] (sp__law_is_told A.WorldError A.NoRow A.BadChange)) (G__law_drawn_change : FnD P w K mg base 3 T.a__law_drawn_change T.fd__law_drawn_change [Str.ofString "_law_hand_here", Str.ofString "_law_one"] sp__law_drawn_change) (G__law_spliced : FnD P w K mg base 4 T.a__law_spliced T.fd__law_spliced [Str.ofString "_law_hand_here", Str.ofString "_law_row"] sp__law_spliced) (G__law_is_path : FnD P w K mg base 7 T.a__law_is_path T.fd__law_is_path [Str.ofString "_law_one", Str.ofString "_law_other"] (sp__law_is_path A.NoRow A.BadChange)) (cdv : Value) (An : Around) (outer : List Env) (s : Shared) (H : Hp) (E : XK) (hr : Room 8 (An.deeper (envOfC "law" (defScope s_law) s.heap.objs.size T.a_law cdv))) :
    PSs (cxOf (L2.CX P w) P w K mg base N_law "law" (defScope s_law) T.a_law cdv An outer s H E) (defBody s_law) (lowS K (WF E) (r_law A.WorldError A.NoRow A.BadChange)) :=
  (s_cons (s_set 1 sc_law.nd (d_call G__law_hand (hr.mono (by decide)) T.m__law_hand T.F__law_hand.kp T.b__law_hand tkF (da_cons (dv 0) da_nil)))
    (s_cons (s_set 2 sc_law.nd (d_call G__law_draw (hr.mono (by decide)) T.m__law_draw T.F__law_draw.kp T.b__law_draw tkF (da_cons (dv 1) (da_cons d_int da_nil))))
    (s_cons (s_set 3 sc_law.nd (d_op op_mulA l_mul (d_call G__law_bytes (hr.mono (by decide)) T.m__law_bytes T.F__law_bytes.kp T.b__law_bytes tkF (da_cons (dv 1) (da_cons d_int da_nil))) (d_ix (d_lst (da_cons d_int (da_cons d_int (da_cons d_int da_nil)))) (d_call G__law_draw (hr.mono (by decide)) T.m__law_draw T.F__law_draw.kp T.b__law_draw tkF (da_cons (dv 1) (da_cons d_int da_nil))))))
    (s_cons (s_set 4 sc_law.nd (d_ix (d_lst (da_cons (d_call G__law_spliced (hr.mono (by decide)) T.m__law_spliced T.F__law_spliced.kp T.b__law_spliced tkF (da_cons (dv 1) (da_cons (dv 3) da_nil))) (da_cons (d_call G__law_spliced (hr.mono (by decide)) T.m__law_spliced T.F__law_spliced.kp T.b__law_spliced tkF (da_cons (dv 1) (da_cons (dv 3) da_nil))) (da_cons (d_call G__law_bytes (hr.mono (by decide)) T.m__law_bytes T.F__law_bytes.kp T.b__law_bytes tkF (da_cons (dv 1) (da_cons d_int da_nil))) (da_cons (dv 3) (da_cons (d_tup da_nil) da_nil)))))) (dv 2)))
    (s_cons (s_if (PW.pt (t_or (t_not (t_val (d_call G__law_is_path (hr.mono (by decide)) T.m__law_is_path T.F__law_is_path.kp T.b__law_is_path tkF (da_cons (dv 3) (da_cons (dv 4) da_nil))))) (t_or (t_not (t_val (d_call G__law_is_path (hr.mono (by decide)) T.m__law_is_path T.F__law_is_path.kp T.b__law_is_path tkF (da_cons (dv 4) (da_cons (dv 3) da_nil))))) (t_or1 (t_not (t_val (d_call G__law_is_path (hr.mono (by decide)) T.m__law_is_path T.F__law_is_path.kp T.b__law_is_path tkF (da_cons (dv 3) (da_cons (dv 3) da_nil))))))))) (s_one (s_ret d_bl)) s_nil)
    (s_cons (s_if (t_not (t_val (d_call G__law_is (hr.mono (by decide)) T.m__law_is T.F__law_is.kp T.b__law_is tkF (da_cons (d_call G_changed (hr.mono (by decide)) T.m_changed T.F_changed.kp T.b_changed tkF (da_cons (d_call G_changed (hr.mono (by decide)) T.m_changed T.F_changed.kp T.b_changed tkF (da_cons (dv 3) (da_cons (d_call G_change (hr.mono (by decide)) T.m_change T.F_change.kp T.b_change tkF (da_cons (dv 3) (da_cons (dv 4) da_nil))) da_nil))) (da_cons (d_call G_change (hr.mono (by decide)) T.m_change T.F_change.kp T.b_change tkF (da_cons (dv 4) (da_cons (dv 3) da_nil))) da_nil))) (da_cons (dv 3) da_nil))))) (s_one (s_ret d_bl)) s_nil)
    (s_cons (s_set 5 sc_law.nd (d_call G__law_drawn_change (hr.mono (by decide)) T.m__law_drawn_change T.F__law_drawn_change.kp T.b__law_drawn_change tkF (da_cons (dv 1) (da_cons (dv 3) da_nil))))
    (s_cons (s_if (t_not (t_val (d_call G__law_is_told (hr.mono (by decide)) T.m__law_is_told T.F__law_is_told.kp T.b__law_is_told tkF (da_cons (dv 3) (da_cons (dv 4) (da_cons (dv 5) da_nil)))))) (s_one (s_ret d_bl)) s_nil)
    (s_cons (s_set 6 sc_law.nd (d_ix (d_call G__law_become (hr.mono (by decide)) T.m__law_become T.F__law_become.kp T.b__law_become tkF (da_cons (dv 3) (da_cons (dv 5) da_nil))) d_int))
    (s_cons (s_if (PW.pt (t_and (t_cmp op_notN l_notN (dv 6) d_non) (t_and1 (t_not (t_val (d_call G__law_is_told (hr.mono (by decide)) T.m__law_is_told T.F__law_is_told.kp T.b__law_is_told tkF (da_cons (dv 3) (da_cons (dv 6) (da_cons (dv 5) da_nil))))))))) (s_one (s_ret d_bl)) s_nil)
    (s_cons (s_for (passes_of rfl) rfl (i_seq (d_lst (da_cons (d_call G__law_spoilt (hr.mono (by decide)) T.m__law_spoilt T.F__law_spoilt.kp T.b__law_spoilt tkF (da_cons (dv 1) (da_cons (dv 5) da_nil))) (da_cons (d_call G__law_spoilt (hr.mono (by decide)) T.m__law_spoilt T.F__law_spoilt.kp T.b__law_spoilt tkF (da_cons (dv 1) (da_cons (d_call G_change (hr.mono (by decide)) T.m_change T.F_change.kp T.b_change tkF (da_cons (dv 3) (da_cons (dv 4) da_nil))) da_nil))) (da_cons (d_call G__law_bytes (hr.mono (by decide)) T.m__law_bytes T.F__law_bytes.kp T.b__law_bytes tkF (da_cons (dv 1) (da_cons d_int da_nil))) (da_cons (d_tup da_nil) da_nil)))))) (g_name 7 sc_law.nd) (s_one (s_if (t_not (t_val (d_call G__law_is_told (hr.mono (by decide)) T.m__law_is_told T.F__law_is_told.kp T.b__law_is_told tkF (da_cons (dv 3) (da_cons (dv 4) (da_cons (dv 7) da_nil)))))) (s_one (s_ret d_bl)) s_nil)))
    (s_cons (s_set 8 sc_law.nd (d_ix (d_lst (da_cons d_non (da_cons (d_callTy call_list_of l_list T.n_list bt_list (da_cons (d_call G_change (hr.mono (by decide)) T.m_change T.F_change.kp T.b_change tkF (da_cons (dv 3) (da_cons (dv 4) da_nil))) da_nil)) (da_cons d_int (da_cons (d_tup (da_cons d_int da_nil)) (da_cons (d_tup (da_cons d_bl da_nil)) (da_cons d_str (da_cons (d_tup (da_cons d_non da_nil)) (da_cons (d_call G__law_deep (hr.mono (by decide)) T.m__law_deep T.F__law_deep.kp T.b__law_deep tkF (da_cons (dv 1) da_nil)) da_nil))))))))) (d_call G__law_draw (hr.mono (by decide)) T.m__law_draw T.F__law_draw.kp T.b__law_draw tkF (da_cons (dv 1) (da_cons d_int da_nil)))))
    (s_one (s_ret (d_call G__law_is (hr.mono (by decide)) T.m__law_is T.F__law_is.kp T.b__law_is tkF (da_cons (d_call G_is_change (hr.mono (by decide)) T.m_is_change T.F_is_change.kp T.b_is_change tkF (da_cons (dv 3) (da_cons (dv 4) (da_cons (dv 8) da_nil)))) (da_cons d_bl da_nil)))))))))))))))))
theorem all_mk_ok (T : Tx K mg A) : FnD P w K mg base 9 T.a_law T.fd_law ["_law_script"] spLaw := by
  have G_is_integer : FnD P w K mg base 1 T.a_is_integer T.fd_is_integer [Str.ofString "thing"] sp_is_integer := okD T.F_is_integer sc_is_integer len_is_integer _ (fun cdv An outer s H E hr => w_is_integer T  cdv An outer s H E hr) rd_is_integer
  have G_is_within : FnD P w K mg base 2 T.a_is_within T.fd_is_within [Str.ofString "thing", Str.ofString "least", Str.ofString "most"] sp_is_within := okD T.F_is_within sc_is_within len_is_within _ (fun cdv An outer s H E hr => w_is_within T G_is_integer cdv An outer s H E hr) rd_is_within
  have G_is_below : FnD P w K mg base 3 T.a_is_below T.fd_is_below [Str.ofString "thing", Str.ofString "many"] sp_is_below := okD T.F_is_below sc_is_below len_is_below _ (fun cdv An outer s H E hr => w_is_below T G_is_within cdv An outer s H E hr) rd_is_below
  have G_is_row : FnD P w K mg base 4 T.a_is_row T.fd_is_row [Str.ofString "thing"] sp_is_row := okD T.F_is_row sc_is_row len_is_row _ (fun cdv An outer s H E hr => w_is_row T G_is_below cdv An outer s H E hr) rd_is_row
  have G_check_row : FnD P w K mg base 5 T.a_check_row T.fd_check_row [Str.ofString "thing"] (sp_check_row A.NoRow) := okD T.F_check_row sc_check_row (len_check_row A.NoRow) _ (fun cdv An outer s H E hr => w_check_row T G_is_row cdv An outer s H E hr) (rd_check_row A.NoRow)
  have G_number_at : FnD P w K mg base 1 T.a_number_at T.fd_number_at [Str.ofString "row", Str.ofString "at"] sp_number_at := okD T.F_number_at sc_number_at len_number_at _ (fun cdv An outer s H E hr => w_number_at T  cdv An outer s H E hr) rd_number_at
  have G_part_at : FnD P w K mg base 2 T.a_part_at T.fd_part_at [Str.ofString "change", Str.ofString "at"] sp_part_at := okD T.F_part_at sc_part_at len_part_at _ (fun cdv An outer s H E hr => w_part_at T G_number_at cdv An outer s H E hr) rd_part_at
  have G_changed_or_wrong : FnD P w K mg base 3 T.a_changed_or_wrong T.fd_changed_or_wrong [Str.ofString "one", Str.ofString "change"] sp_changed_or_wrong := okD T.F_changed_or_wrong sc_changed_or_wrong len_changed_or_wrong _ (fun cdv An outer s H E hr => w_changed_or_wrong T G_part_at cdv An outer s H E hr) rd_changed_or_wrong
  have G_changed : FnD P w K mg base 6 T.a_changed T.fd_changed [Str.ofString "one", Str.ofString "change"] (sp_changed A.NoRow A.BadChange) := okD T.F_changed sc_changed (len_changed A.NoRow A.BadChange) _ (fun cdv An outer s H E hr => w_changed T G_check_row G_changed_or_wrong cdv An outer s H E hr) (rd_changed A.NoRow A.BadChange)
  have G_common_begin : FnD P w K mg base 1 T.a_common_begin T.fd_common_begin [Str.ofString "one", Str.ofString "other"] sp_common_begin := okD T.F_common_begin sc_common_begin len_common_begin _ (fun cdv An outer s H E hr => w_common_begin T  cdv An outer s H E hr) rd_common_begin
  have G_common_end : FnD P w K mg base 1 T.a_common_end T.fd_common_end [Str.ofString "one", Str.ofString "other", Str.ofString "most"] sp_common_end := okD T.F_common_end sc_common_end len_common_end _ (fun cdv An outer s H E hr => w_common_end T  cdv An outer s H E hr) rd_common_end
  have G_figures_of : FnD P w K mg base 1 T.a_figures_of T.fd_figures_of [Str.ofString "number"] sp_figures_of := okD T.F_figures_of sc_figures_of len_figures_of _ (fun cdv An outer s H E hr => w_figures_of T  cdv An outer s H E hr) rd_figures_of
  have G_part_row : FnD P w K mg base 2 T.a_part_row T.fd_part_row [Str.ofString "kind", Str.ofString "many"] sp_part_row := okD T.F_part_row sc_part_row len_part_row _ (fun cdv An outer s H E hr => w_part_row T G_figures_of cdv An outer s H E hr) rd_part_row
  have G_change_of : FnD P w K mg base 3 T.a_change_of T.fd_change_of [Str.ofString "one", Str.ofString "other"] sp_change_of := okD T.F_change_of sc_change_of len_change_of _ (fun cdv An outer s H E hr => w_change_of T G_common_begin G_common_end G_part_row cdv An outer s H E hr) rd_change_of
  have G_change : FnD P w K mg base 6 T.a_change T.fd_change [Str.ofString "one", Str.ofString "other"] (sp_change A.NoRow) := okD T.F_change sc_change (len_change A.NoRow) _ (fun cdv An outer s H E hr => w_change T G_check_row G_change_of cdv An outer s H E hr) (rd_change A.NoRow)
  have G_is_change : FnD P w K mg base 6 T.a_is_change T.fd_is_change [Str.ofString "one", Str.ofString "other", Str.ofString "thing"] (sp_is_change A.NoRow) := okD T.F_is_change sc_is_change (len_is_change A.NoRow) _ (fun cdv An outer s H E hr => w_is_change T G_is_row G_check_row G_changed_or_wrong cdv An outer s H E hr) (rd_is_change A.NoRow)
  have G__law_hand : FnD P w K mg base 1 T.a__law_hand T.fd__law_hand [Str.ofString "_law_script"] sp__law_hand := okD T.F__law_hand sc__law_hand len__law_hand _ (fun cdv An outer s H E hr => w__law_hand T  cdv An outer s H E hr) rd__law_hand
  have G__law_draw : FnD P w K mg base 1 T.a__law_draw T.fd__law_draw [Str.ofString "_law_hand_here", Str.ofString "_law_many"] sp__law_draw := okD T.F__law_draw sc__law_draw len__law_draw _ (fun cdv An outer s H E hr => w__law_draw T  cdv An outer s H E hr) rd__law_draw
  have G__law_is : ∀ n, FnD P w K mg base (0 + n) T.a__law_is T.fd__law_is [Str.ofString "_law_told", Str.ofString "_law_due"] (sp__law_is  n) := by
    intro n
    induction n with
    | zero => exact fn_never fun _ _ _ _ h => h
    | succ n ih => exact okD T.F__law_is sc__law_is (len__law_is  (n + 1)) _ (fun cdv An outer s H E hr => w__law_is T  (0 + n) (Nat.le_add_right _ _) (sp__law_is  n) ih cdv An outer s H E hr) (rd__law_is  n)
  have G__law_deep : FnD P w K mg base 2 T.a__law_deep T.fd__law_deep [Str.ofString "_law_hand_here"] sp__law_deep := okD T.F__law_deep sc__law_deep len__law_deep _ (fun cdv An outer s H E hr => w__law_deep T G__law_draw cdv An outer s H E hr) rd__law_deep
  have G__law_byte : FnD P w K mg base 2 T.a__law_byte T.fd__law_byte [Str.ofString "_law_hand_here"] sp__law_byte := okD T.F__law_byte sc__law_byte len__law_byte _ (fun cdv An outer s H E hr => w__law_byte T G__law_draw cdv An outer s H E hr) rd__law_byte
  have G__law_bytes : FnD P w K mg base 3 T.a__law_bytes T.fd__law_bytes [Str.ofString "_law_hand_here", Str.ofString "_law_most"] sp__law_bytes := okD T.F__law_bytes sc__law_bytes len__law_bytes _ (fun cdv An outer s H E hr => w__law_bytes T G__law_draw G__law_byte cdv An outer s H E hr) rd__law_bytes
  have G__law_spoilt : FnD P w K mg base 4 T.a__law_spoilt T.fd__law_spoilt [Str.ofString "_law_hand_here", Str.ofString "_law_row"] sp__law_spoilt := okD T.F__law_spoilt sc__law_spoilt len__law_spoilt _ (fun cdv An outer s H E hr => w__law_spoilt T G__law_draw G__law_byte G__law_bytes cdv An outer s H E hr) rd__law_spoilt
  have G__law_read : FnD P w K mg base 1 T.a__law_read T.fd__law_read [Str.ofString "_law_row", Str.ofString "_law_at"] sp__law_read := okD T.F__law_read sc__law_read len__law_read _ (fun cdv An outer s H E hr => w__law_read T  cdv An outer s H E hr) rd__law_read
  have G__law_become : FnD P w K mg base 2 T.a__law_become T.fd__law_become [Str.ofString "_law_one", Str.ofString "_law_some"] sp__law_become := okD T.F__law_become sc__law_become len__law_become _ (fun cdv An outer s H E hr => w__law_become T G__law_read cdv An outer s H E hr) rd__law_become
  have G__law_changed_told : FnD P w K mg base 7 T.a__law_changed_told T.fd__law_changed_told [Str.ofString "_law_one", Str.ofString "_law_some"] (sp__law_changed_told A.WorldError A.NoRow A.BadChange) := okD T.F__law_changed_told sc__law_changed_told (len__law_changed_told A.WorldError A.NoRow A.BadChange) _ (fun cdv An outer s H E hr => w__law_changed_told T G_changed cdv An outer s H E hr) (rd__law_changed_told A.WorldError A.NoRow A.BadChange)
  have G__law_is_told : FnD P w K mg base 8 T.a__law_is_told T.fd__law_is_told [Str.ofString "_law_one", Str.ofString "_law_other", Str.ofString "_law_some"] (sp__law_is_told A.WorldError A.NoRow A.BadChange) := okD T.F__law_is_told sc__law_is_told (len__law_is_told A.WorldError A.NoRow A.BadChange) _ (fun cdv An outer s H E hr => w__law_is_told T G_is_change (G__law_is 4) G__law_become G__law_changed_told cdv An outer s H E hr) (rd__law_is_told A.WorldError A.NoRow A.BadChange)
  have G__law_whole : FnD P w K mg base 1 T.a__law_whole T.fd__law_whole [Str.ofString "_law_number"] sp__law_whole := okD T.F__law_whole sc__law_whole len__law_whole _ (fun cdv An outer s H E hr => w__law_whole T  cdv An outer s H E hr) rd__law_whole
  have G__law_drawn_change : FnD P w K mg base 3 T.a__law_drawn_change T.fd__law_drawn_change [Str.ofString "_law_hand_here", Str.ofString "_law_one"] sp__law_drawn_change := okD T.F__law_drawn_change sc__law_drawn_change len__law_drawn_change _ (fun cdv An outer s H E hr => w__law_drawn_change T G__law_draw G__law_whole G__law_byte cdv An outer s H E hr) rd__law_drawn_change
  have G__law_spliced : FnD P w K mg base 4 T.a__law_spliced T.fd__law_spliced [Str.ofString "_law_hand_here", Str.ofString "_law_row"] sp__law_spliced := okD T.F__law_spliced sc__law_spliced len__law_spliced _ (fun cdv An outer s H E hr => w__law_spliced T G__law_draw G__law_bytes cdv An outer s H E hr) rd__law_spliced
  have G__law_is_path : FnD P w K mg base 7 T.a__law_is_path T.fd__law_is_path [Str.ofString "_law_one", Str.ofString "_law_other"] (sp__law_is_path A.NoRow A.BadChange) := okD T.F__law_is_path sc__law_is_path (len__law_is_path A.NoRow A.BadChange) _ (fun cdv An outer s H E hr => w__law_is_path T G_changed G_change G_is_change (G__law_is 4) G__law_become cdv An outer s H E hr) (rd__law_is_path A.NoRow A.BadChange)
  have G_law : FnD P w K mg base 9 T.a_law T.fd_law [Str.ofString "_law_script"] spLaw := okD T.F_law sc_law (len_law A.WorldError A.NoRow A.BadChange) _ (fun cdv An outer s H E hr => w_law T G_changed G_change G_is_change G__law_hand G__law_draw (G__law_is 4) G__law_deep G__law_bytes G__law_spoilt G__law_become G__law_is_told G__law_drawn_change G__law_spliced G__law_is_path cdv An outer s H E hr) (rd_law A.WorldError A.NoRow A.BadChange)
  exact G_law
end
def tx_mk {K : PySem.W.Frag} {h : Heap} {mg : Str → Option Value} (X : K.In h) (G : h.Ns mainGlobals mg)
    {fa_is_integer : Addr} {oc_is_integer kV_is_integer doc_is_integer pm_is_integer cd_is_integer ct_is_integer : Value} {od_is_integer an_is_integer : Option Addr} {sl_is_integer : Array (Option Value)}
    {fa_is_within : Addr} {oc_is_within kV_is_within doc_is_within pm_is_within cd_is_within ct_is_within : Value} {od_is_within an_is_within : Option Addr} {sl_is_within : Array (Option Value)}
    {fa_is_below : Addr} {oc_is_below kV_is_below doc_is_below pm_is_below cd_is_below ct_is_below : Value} {od_is_below an_is_below : Option Addr} {sl_is_below : Array (Option Value)}
    {fa_is_row : Addr} {oc_is_row kV_is_row doc_is_row pm_is_row cd_is_row ct_is_row : Value} {od_is_row an_is_row : Option Addr} {sl_is_row : Array (Option Value)}
    {fa_check_row : Addr} {oc_check_row kV_check_row doc_check_row pm_check_row cd_check_row ct_check_row : Value} {od_check_row an_check_row : Option Addr} {sl_check_row : Array (Option Value)}
    {fa_figures_of : Addr} {oc_figures_of kV_figures_of doc_figures_of pm_figures_of cd_figures_of ct_figures_of : Value} {od_figures_of an_figures_of : Option Addr} {sl_figures_of : Array (Option Value)}
    {fa_number_at : Addr} {oc_number_at kV_number_at doc_number_at pm_number_at cd_number_at ct_number_at : Value} {od_number_at an_number_at : Option Addr} {sl_number_at : Array (Option Value)}
    {fa_part_at : Addr} {oc_part_at kV_part_at doc_part_at pm_part_at cd_part_at ct_part_at : Value} {od_part_at an_part_at : Option Addr} {sl_part_at : Array (Option Value)}
    {fa_changed_or_wrong : Addr} {oc_changed_or_wrong kV_changed_or_wrong doc_changed_or_wrong pm_changed_or_wrong cd_changed_or_wrong ct_changed_or_wrong : Value} {od_changed_or_wrong an_changed_or_wrong : Option Addr} {sl_changed_or_wrong : Array (Option Value)}
    {fa_changed : Addr} {oc_changed kV_changed doc_changed pm_changed cd_changed ct_changed : Value} {od_changed an_changed : Option Addr} {sl_changed : Array (Option Value)}
    {fa_common_begin : Addr} {oc_common_begin kV_common_begin doc_common_begin pm_common_begin cd_common_begin ct_common_begin : Value} {od_common_begin an_common_begin : Option Addr} {sl_common_begin : Array (Option Value)}
    {fa_common_end : Addr} {oc_common_end kV_common_end doc_common_end pm_common_end cd_common_end ct_common_end : Value} {od_common_end an_common_end : Option Addr} {sl_common_end : Array (Option Value)}
    {fa_part_row : Addr} {oc_part_row kV_part_row doc_part_row pm_part_row cd_part_row ct_part_row : Value} {od_part_row an_part_row : Option Addr} {sl_part_row : Array (Option Value)}
    {fa_change_of : Addr} {oc_change_of kV_change_of doc_change_of pm_change_of cd_change_of ct_change_of : Value} {od_change_of an_change_of : Option Addr} {sl_change_of : Array (Option Value)}
    {fa_change : Addr} {oc_change kV_change doc_change pm_change cd_change ct_change : Value} {od_change an_change : Option Addr} {sl_change : Array (Option Value)}
    {fa_is_change : Addr} {oc_is_change kV_is_change doc_is_change pm_is_change cd_is_change ct_is_change : Value} {od_is_change an_is_change : Option Addr} {sl_is_change : Array (Option Value)}
    {fa__law_hand : Addr} {oc__law_hand kV__law_hand doc__law_hand pm__law_hand cd__law_hand ct__law_hand : Value} {od__law_hand an__law_hand : Option Addr} {sl__law_hand : Array (Option Value)}
    {fa__law_draw : Addr} {oc__law_draw kV__law_draw doc__law_draw pm__law_draw cd__law_draw ct__law_draw : Value} {od__law_draw an__law_draw : Option Addr} {sl__law_draw : Array (Option Value)}
    {fa__law_is : Addr} {oc__law_is kV__law_is doc__law_is pm__law_is cd__law_is ct__law_is : Value} {od__law_is an__law_is : Option Addr} {sl__law_is : Array (Option Value)}
    {fa__law_deep : Addr} {oc__law_deep kV__law_deep doc__law_deep pm__law_deep cd__law_deep ct__law_deep : Value} {od__law_deep an__law_deep : Option Addr} {sl__law_deep : Array (Option Value)}
    {fa__law_whole : Addr} {oc__law_whole kV__law_whole doc__law_whole pm__law_whole cd__law_whole ct__law_whole : Value} {od__law_whole an__law_whole : Option Addr} {sl__law_whole : Array (Option Value)}
    {fa__law_read : Addr} {oc__law_read kV__law_read doc__law_read pm__law_read cd__law_read ct__law_read : Value} {od__law_read an__law_read : Option Addr} {sl__law_read : Array (Option Value)}
    {fa__law_byte : Addr} {oc__law_byte kV__law_byte doc__law_byte pm__law_byte cd__law_byte ct__law_byte : Value} {od__law_byte an__law_byte : Option Addr} {sl__law_byte : Array (Option Value)}
    {fa__law_bytes : Addr} {oc__law_bytes kV__law_bytes doc__law_bytes pm__law_bytes cd__law_bytes ct__law_bytes : Value} {od__law_bytes an__law_bytes : Option Addr} {sl__law_bytes : Array (Option Value)}
    {fa__law_spoilt : Addr} {oc__law_spoilt kV__law_spoilt doc__law_spoilt pm__law_spoilt cd__law_spoilt ct__law_spoilt : Value} {od__law_spoilt an__law_spoilt : Option Addr} {sl__law_spoilt : Array (Option Value)}
    {fa__law_become : Addr} {oc__law_become kV__law_become doc__law_become pm__law_become cd__law_become ct__law_become : Value} {od__law_become an__law_become : Option Addr} {sl__law_become : Array (Option Value)}
    {fa__law_changed_told : Addr} {oc__law_changed_told kV__law_changed_told doc__law_changed_told pm__law_changed_told cd__law_changed_told ct__law_changed_told : Value} {od__law_changed_told an__law_changed_told : Option Addr} {sl__law_changed_told : Array (Option Value)}
    {fa__law_is_told : Addr} {oc__law_is_told kV__law_is_told doc__law_is_told pm__law_is_told cd__law_is_told ct__law_is_told : Value} {od__law_is_told an__law_is_told : Option Addr} {sl__law_is_told : Array (Option Value)}
    {fa__law_drawn_change : Addr} {oc__law_drawn_change kV__law_drawn_change doc__law_drawn_change pm__law_drawn_change cd__law_drawn_change ct__law_drawn_change : Value} {od__law_drawn_change an__law_drawn_change : Option Addr} {sl__law_drawn_change : Array (Option Value)}
    {fa__law_spliced : Addr} {oc__law_spliced kV__law_spliced doc__law_spliced pm__law_spliced cd__law_spliced ct__law_spliced : Value} {od__law_spliced an__law_spliced : Option Addr} {sl__law_spliced : Array (Option Value)}
    {fa__law_is_path : Addr} {oc__law_is_path kV__law_is_path doc__law_is_path pm__law_is_path cd__law_is_path ct__law_is_path : Value} {od__law_is_path an__law_is_path : Option Addr} {sl__law_is_path : Array (Option Value)}
    {fa_law : Addr} {oc_law kV_law doc_law pm_law cd_law ct_law : Value} {od_law an_law : Option Addr} {sl_law : Array (Option Value)}
    {tk1 : Tok}
    {tk2 : Tok}
    {tk3 : Tok}
    {tk4 : Tok}
    {tk5 : Tok}
    {tk6 : Tok}
    {tk7 : Tok}
    {tk8 : Tok}
    {tk9 : Tok}
    {A_WorldError : Addr}
    {A_NoRow : Addr}
    {A_BadChange : Addr}
    {nm_BadChange q_BadChange : Str} {N_BadChange : Addr} {bs_BadChange : List Value} {sn_BadChange : List Str} {sub_BadChange : List Value} {ab_BadChange : Bool} {col_BadChange : Option Bool} {dd_BadChange : Option Addr} {m0_BadChange m1_BadChange m2_BadChange m3_BadChange m5_BadChange : Option Value} {fi_BadChange : Addr}
    {bw0_BadChange : Addr}
    {oc_BadChange___init__ kV_BadChange___init__ doc_BadChange___init__ pm_BadChange___init__ cd_BadChange___init__ ct_BadChange___init__ : Value} {od_BadChange___init__ an_BadChange___init__ : Option Addr} {sl_BadChange___init__ : Array (Option Value)}
    (a_is_integer : PySem.W.nsIn K mainGlobals "is_integer" = some (some (.ref fa_is_integer)))
    (l_is_integer : K.lookup fa_is_integer = some ⟨oc_is_integer, od_is_integer, .func (PySem.W.fnOf "is_integer" "is_integer" (defArgs s_is_integer) (defBody s_is_integer) (defScope s_is_integer) .none kV_is_integer doc_is_integer pm_is_integer an_is_integer cd_is_integer ct_is_integer), sl_is_integer⟩)
    (c_is_integer : PySem.W.codeIn K cd_is_integer "is_integer" = true)
    (k_is_integer : PySem.W.keepIn K (.ref fa_is_integer) = true)
    (a_is_within : PySem.W.nsIn K mainGlobals "is_within" = some (some (.ref fa_is_within)))
    (l_is_within : K.lookup fa_is_within = some ⟨oc_is_within, od_is_within, .func (PySem.W.fnOf "is_within" "is_within" (defArgs s_is_within) (defBody s_is_within) (defScope s_is_within) .none kV_is_within doc_is_within pm_is_within an_is_within cd_is_within ct_is_within), sl_is_within⟩)
    (c_is_within : PySem.W.codeIn K cd_is_within "is_within" = true)
    (k_is_within : PySem.W.keepIn K (.ref fa_is_within) = true)
    (a_is_below : PySem.W.nsIn K mainGlobals "is_below" = some (some (.ref fa_is_below)))
    (l_is_below : K.lookup fa_is_below = some ⟨oc_is_below, od_is_below, .func (PySem.W.fnOf "is_below" "is_below" (defArgs s_is_below) (defBody s_is_below) (defScope s_is_below) .none kV_is_below doc_is_below pm_is_below an_is_below cd_is_below ct_is_below), sl_is_below⟩)
    (c_is_below : PySem.W.codeIn K cd_is_below "is_below" = true)
    (k_is_below : PySem.W.keepIn K (.ref fa_is_below) = true)
    (a_is_row : PySem.W.nsIn K mainGlobals "is_row" = some (some (.ref fa_is_row)))
    (l_is_row : K.lookup fa_is_row = some ⟨oc_is_row, od_is_row, .func (PySem.W.fnOf "is_row" "is_row" (defArgs s_is_row) (defBody s_is_row) (defScope s_is_row) .none kV_is_row doc_is_row pm_is_row an_is_row cd_is_row ct_is_row), sl_is_row⟩)
    (c_is_row : PySem.W.codeIn K cd_is_row "is_row" = true)
    (k_is_row : PySem.W.keepIn K (.ref fa_is_row) = true)
    (a_check_row : PySem.W.nsIn K mainGlobals "check_row" = some (some (.ref fa_check_row)))
    (l_check_row : K.lookup fa_check_row = some ⟨oc_check_row, od_check_row, .func (PySem.W.fnOf "check_row" "check_row" (defArgs s_check_row) (defBody s_check_row) (defScope s_check_row) .none kV_check_row doc_check_row pm_check_row an_check_row cd_check_row ct_check_row), sl_check_row⟩)
    (c_check_row : PySem.W.codeIn K cd_check_row "check_row" = true)
    (k_check_row : PySem.W.keepIn K (.ref fa_check_row) = true)
    (a_figures_of : PySem.W.nsIn K mainGlobals "figures_of" = some (some (.ref fa_figures_of)))
    (l_figures_of : K.lookup fa_figures_of = some ⟨oc_figures_of, od_figures_of, .func (PySem.W.fnOf "figures_of" "figures_of" (defArgs s_figures_of) (defBody s_figures_of) (defScope s_figures_of) .none kV_figures_of doc_figures_of pm_figures_of an_figures_of cd_figures_of ct_figures_of), sl_figures_of⟩)
    (c_figures_of : PySem.W.codeIn K cd_figures_of "figures_of" = true)
    (k_figures_of : PySem.W.keepIn K (.ref fa_figures_of) = true)
    (a_number_at : PySem.W.nsIn K mainGlobals "number_at" = some (some (.ref fa_number_at)))
    (l_number_at : K.lookup fa_number_at = some ⟨oc_number_at, od_number_at, .func (PySem.W.fnOf "number_at" "number_at" (defArgs s_number_at) (defBody s_number_at) (defScope s_number_at) .none kV_number_at doc_number_at pm_number_at an_number_at cd_number_at ct_number_at), sl_number_at⟩)
    (c_number_at : PySem.W.codeIn K cd_number_at "number_at" = true)
    (k_number_at : PySem.W.keepIn K (.ref fa_number_at) = true)
    (a_part_at : PySem.W.nsIn K mainGlobals "part_at" = some (some (.ref fa_part_at)))
    (l_part_at : K.lookup fa_part_at = some ⟨oc_part_at, od_part_at, .func (PySem.W.fnOf "part_at" "part_at" (defArgs s_part_at) (defBody s_part_at) (defScope s_part_at) .none kV_part_at doc_part_at pm_part_at an_part_at cd_part_at ct_part_at), sl_part_at⟩)
    (c_part_at : PySem.W.codeIn K cd_part_at "part_at" = true)
    (k_part_at : PySem.W.keepIn K (.ref fa_part_at) = true)
    (a_changed_or_wrong : PySem.W.nsIn K mainGlobals "changed_or_wrong" = some (some (.ref fa_changed_or_wrong)))
    (l_changed_or_wrong : K.lookup fa_changed_or_wrong = some ⟨oc_changed_or_wrong, od_changed_or_wrong, .func (PySem.W.fnOf "changed_or_wrong" "changed_or_wrong" (defArgs s_changed_or_wrong) (defBody s_changed_or_wrong) (defScope s_changed_or_wrong) .none kV_changed_or_wrong doc_changed_or_wrong pm_changed_or_wrong an_changed_or_wrong cd_changed_or_wrong ct_changed_or_wrong), sl_changed_or_wrong⟩)
    (c_changed_or_wrong : PySem.W.codeIn K cd_changed_or_wrong "changed_or_wrong" = true)
    (k_changed_or_wrong : PySem.W.keepIn K (.ref fa_changed_or_wrong) = true)
    (a_changed : PySem.W.nsIn K mainGlobals "changed" = some (some (.ref fa_changed)))
    (l_changed : K.lookup fa_changed = some ⟨oc_changed, od_changed, .func (PySem.W.fnOf "changed" "changed" (defArgs s_changed) (defBody s_changed) (defScope s_changed) .none kV_changed doc_changed pm_changed an_changed cd_changed ct_changed), sl_changed⟩)
    (c_changed : PySem.W.codeIn K cd_changed "changed" = true)
    (k_changed : PySem.W.keepIn K (.ref fa_changed) = true)
    (a_common_begin : PySem.W.nsIn K mainGlobals "common_begin" = some (some (.ref fa_common_begin)))
    (l_common_begin : K.lookup fa_common_begin = some ⟨oc_common_begin, od_common_begin, .func (PySem.W.fnOf "common_begin" "common_begin" (defArgs s_common_begin) (defBody s_common_begin) (defScope s_common_begin) .none kV_common_begin doc_common_begin pm_common_begin an_common_begin cd_common_begin ct_common_begin), sl_common_begin⟩)
    (c_common_begin : PySem.W.codeIn K cd_common_begin "common_begin" = true)
    (k_common_begin : PySem.W.keepIn K (.ref fa_common_begin) = true)
    (a_common_end : PySem.W.nsIn K mainGlobals "common_end" = some (some (.ref fa_common_end)))
    (l_common_end : K.lookup fa_common_end = some ⟨oc_common_end, od_common_end, .func (PySem.W.fnOf "common_end" "common_end" (defArgs s_common_end) (defBody s_common_end) (defScope s_common_end) .none kV_common_end doc_common_end pm_common_end an_common_end cd_common_end ct_common_end), sl_common_end⟩)
    (c_common_end : PySem.W.codeIn K cd_common_end "common_end" = true)
    (k_common_end : PySem.W.keepIn K (.ref fa_common_end) = true)
    (a_part_row : PySem.W.nsIn K mainGlobals "part_row" = some (some (.ref fa_part_row)))
    (l_part_row : K.lookup fa_part_row = some ⟨oc_part_row, od_part_row, .func (PySem.W.fnOf "part_row" "part_row" (defArgs s_part_row) (defBody s_part_row) (defScope s_part_row) .none kV_part_row doc_part_row pm_part_row an_part_row cd_part_row ct_part_row), sl_part_row⟩)
    (c_part_row : PySem.W.codeIn K cd_part_row "part_row" = true)
    (k_part_row : PySem.W.keepIn K (.ref fa_part_row) = true)
    (a_change_of : PySem.W.nsIn K mainGlobals "change_of" = some (some (.ref fa_change_of)))
    (l_change_of : K.lookup fa_change_of = some ⟨oc_change_of, od_change_of, .func (PySem.W.fnOf "change_of" "change_of" (defArgs s_change_of) (defBody s_change_of) (defScope s_change_of) .none kV_change_of doc_change_of pm_change_of an_change_of cd_change_of ct_change_of), sl_change_of⟩)
    (c_change_of : PySem.W.codeIn K cd_change_of "change_of" = true)
    (k_change_of : PySem.W.keepIn K (.ref fa_change_of) = true)
    (a_change : PySem.W.nsIn K mainGlobals "change" = some (some (.ref fa_change)))
    (l_change : K.lookup fa_change = some ⟨oc_change, od_change, .func (PySem.W.fnOf "change" "change" (defArgs s_change) (defBody s_change) (defScope s_change) .none kV_change doc_change pm_change an_change cd_change ct_change), sl_change⟩)
    (c_change : PySem.W.codeIn K cd_change "change" = true)
    (k_change : PySem.W.keepIn K (.ref fa_change) = true)
    (a_is_change : PySem.W.nsIn K mainGlobals "is_change" = some (some (.ref fa_is_change)))
    (l_is_change : K.lookup fa_is_change = some ⟨oc_is_change, od_is_change, .func (PySem.W.fnOf "is_change" "is_change" (defArgs s_is_change) (defBody s_is_change) (defScope s_is_change) .none kV_is_change doc_is_change pm_is_change an_is_change cd_is_change ct_is_change), sl_is_change⟩)
    (c_is_change : PySem.W.codeIn K cd_is_change "is_change" = true)
    (k_is_change : PySem.W.keepIn K (.ref fa_is_change) = true)
    (a__law_hand : PySem.W.nsIn K mainGlobals "_law_hand" = some (some (.ref fa__law_hand)))
    (l__law_hand : K.lookup fa__law_hand = some ⟨oc__law_hand, od__law_hand, .func (PySem.W.fnOf "_law_hand" "_law_hand" (defArgs s__law_hand) (defBody s__law_hand) (defScope s__law_hand) .none kV__law_hand doc__law_hand pm__law_hand an__law_hand cd__law_hand ct__law_hand), sl__law_hand⟩)
    (c__law_hand : PySem.W.codeIn K cd__law_hand "_law_hand" = true)
    (k__law_hand : PySem.W.keepIn K (.ref fa__law_hand) = true)
    (a__law_draw : PySem.W.nsIn K mainGlobals "_law_draw" = some (some (.ref fa__law_draw)))
    (l__law_draw : K.lookup fa__law_draw = some ⟨oc__law_draw, od__law_draw, .func (PySem.W.fnOf "_law_draw" "_law_draw" (defArgs s__law_draw) (defBody s__law_draw) (defScope s__law_draw) .none kV__law_draw doc__law_draw pm__law_draw an__law_draw cd__law_draw ct__law_draw), sl__law_draw⟩)
    (c__law_draw : PySem.W.codeIn K cd__law_draw "_law_draw" = true)
    (k__law_draw : PySem.W.keepIn K (.ref fa__law_draw) = true)
    (a__law_is : PySem.W.nsIn K mainGlobals "_law_is" = some (some (.ref fa__law_is)))
    (l__law_is : K.lookup fa__law_is = some ⟨oc__law_is, od__law_is, .func (PySem.W.fnOf "_law_is" "_law_is" (defArgs s__law_is) (defBody s__law_is) (defScope s__law_is) .none kV__law_is doc__law_is pm__law_is an__law_is cd__law_is ct__law_is), sl__law_is⟩)
    (c__law_is : PySem.W.codeIn K cd__law_is "_law_is" = true)
    (k__law_is : PySem.W.keepIn K (.ref fa__law_is) = true)
    (a__law_deep : PySem.W.nsIn K mainGlobals "_law_deep" = some (some (.ref fa__law_deep)))
    (l__law_deep : K.lookup fa__law_deep = some ⟨oc__law_deep, od__law_deep, .func (PySem.W.fnOf "_law_deep" "_law_deep" (defArgs s__law_deep) (defBody s__law_deep) (defScope s__law_deep) .none kV__law_deep doc__law_deep pm__law_deep an__law_deep cd__law_deep ct__law_deep), sl__law_deep⟩)
    (c__law_deep : PySem.W.codeIn K cd__law_deep "_law_deep" = true)
    (k__law_deep : PySem.W.keepIn K (.ref fa__law_deep) = true)
    (a__law_whole : PySem.W.nsIn K mainGlobals "_law_whole" = some (some (.ref fa__law_whole)))
    (l__law_whole : K.lookup fa__law_whole = some ⟨oc__law_whole, od__law_whole, .func (PySem.W.fnOf "_law_whole" "_law_whole" (defArgs s__law_whole) (defBody s__law_whole) (defScope s__law_whole) .none kV__law_whole doc__law_whole pm__law_whole an__law_whole cd__law_whole ct__law_whole), sl__law_whole⟩)
    (c__law_whole : PySem.W.codeIn K cd__law_whole "_law_whole" = true)
    (k__law_whole : PySem.W.keepIn K (.ref fa__law_whole) = true)
    (a__law_read : PySem.W.nsIn K mainGlobals "_law_read" = some (some (.ref fa__law_read)))
    (l__law_read : K.lookup fa__law_read = some ⟨oc__law_read, od__law_read, .func (PySem.W.fnOf "_law_read" "_law_read" (defArgs s__law_read) (defBody s__law_read) (defScope s__law_read) .none kV__law_read doc__law_read pm__law_read an__law_read cd__law_read ct__law_read), sl__law_read⟩)
    (c__law_read : PySem.W.codeIn K cd__law_read "_law_read" = true)
    (k__law_read : PySem.W.keepIn K (.ref fa__law_read) = true)
    (a__law_byte : PySem.W.nsIn K mainGlobals "_law_byte" = some (some (.ref fa__law_byte)))
    (l__law_byte : K.lookup fa__law_byte = some ⟨oc__law_byte, od__law_byte, .func (PySem.W.fnOf "_law_byte" "_law_byte" (defArgs s__law_byte) (defBody s__law_byte) (defScope s__law_byte) .none kV__law_byte doc__law_byte pm__law_byte an__law_byte cd__law_byte ct__law_byte), sl__law_byte⟩)
    (c__law_byte : PySem.W.codeIn K cd__law_byte "_law_byte" = true)
    (k__law_byte : PySem.W.keepIn K (.ref fa__law_byte) = true)
    (a__law_bytes : PySem.W.nsIn K mainGlobals "_law_bytes" = some (some (.ref fa__law_bytes)))
    (l__law_bytes : K.lookup fa__law_bytes = some ⟨oc__law_bytes, od__law_bytes, .func (PySem.W.fnOf "_law_bytes" "_law_bytes" (defArgs s__law_bytes) (defBody s__law_bytes) (defScope s__law_bytes) .none kV__law_bytes doc__law_bytes pm__law_bytes an__law_bytes cd__law_bytes ct__law_bytes), sl__law_bytes⟩)
    (c__law_bytes : PySem.W.codeIn K cd__law_bytes "_law_bytes" = true)
    (k__law_bytes : PySem.W.keepIn K (.ref fa__law_bytes) = true)
    (a__law_spoilt : PySem.W.nsIn K mainGlobals "_law_spoilt" = some (some (.ref fa__law_spoilt)))
    (l__law_spoilt : K.lookup fa__law_spoilt = some ⟨oc__law_spoilt, od__law_spoilt, .func (PySem.W.fnOf "_law_spoilt" "_law_spoilt" (defArgs s__law_spoilt) (defBody s__law_spoilt) (defScope s__law_spoilt) .none kV__law_spoilt doc__law_spoilt pm__law_spoilt an__law_spoilt cd__law_spoilt ct__law_spoilt), sl__law_spoilt⟩)
    (c__law_spoilt : PySem.W.codeIn K cd__law_spoilt "_law_spoilt" = true)
    (k__law_spoilt : PySem.W.keepIn K (.ref fa__law_spoilt) = true)
    (a__law_become : PySem.W.nsIn K mainGlobals "_law_become" = some (some (.ref fa__law_become)))
    (l__law_become : K.lookup fa__law_become = some ⟨oc__law_become, od__law_become, .func (PySem.W.fnOf "_law_become" "_law_become" (defArgs s__law_become) (defBody s__law_become) (defScope s__law_become) .none kV__law_become doc__law_become pm__law_become an__law_become cd__law_become ct__law_become), sl__law_become⟩)
    (c__law_become : PySem.W.codeIn K cd__law_become "_law_become" = true)
    (k__law_become : PySem.W.keepIn K (.ref fa__law_become) = true)
    (a__law_changed_told : PySem.W.nsIn K mainGlobals "_law_changed_told" = some (some (.ref fa__law_changed_told)))
    (l__law_changed_told : K.lookup fa__law_changed_told = some ⟨oc__law_changed_told, od__law_changed_told, .func (PySem.W.fnOf "_law_changed_told" "_law_changed_told" (defArgs s__law_changed_told) (defBody s__law_changed_told) (defScope s__law_changed_told) .none kV__law_changed_told doc__law_changed_told pm__law_changed_told an__law_changed_told cd__law_changed_told ct__law_changed_told), sl__law_changed_told⟩)
    (c__law_changed_told : PySem.W.codeIn K cd__law_changed_told "_law_changed_told" = true)
    (k__law_changed_told : PySem.W.keepIn K (.ref fa__law_changed_told) = true)
    (a__law_is_told : PySem.W.nsIn K mainGlobals "_law_is_told" = some (some (.ref fa__law_is_told)))
    (l__law_is_told : K.lookup fa__law_is_told = some ⟨oc__law_is_told, od__law_is_told, .func (PySem.W.fnOf "_law_is_told" "_law_is_told" (defArgs s__law_is_told) (defBody s__law_is_told) (defScope s__law_is_told) .none kV__law_is_told doc__law_is_told pm__law_is_told an__law_is_told cd__law_is_told ct__law_is_told), sl__law_is_told⟩)
    (c__law_is_told : PySem.W.codeIn K cd__law_is_told "_law_is_told" = true)
    (k__law_is_told : PySem.W.keepIn K (.ref fa__law_is_told) = true)
    (a__law_drawn_change : PySem.W.nsIn K mainGlobals "_law_drawn_change" = some (some (.ref fa__law_drawn_change)))
    (l__law_drawn_change : K.lookup fa__law_drawn_change = some ⟨oc__law_drawn_change, od__law_drawn_change, .func (PySem.W.fnOf "_law_drawn_change" "_law_drawn_change" (defArgs s__law_drawn_change) (defBody s__law_drawn_change) (defScope s__law_drawn_change) .none kV__law_drawn_change doc__law_drawn_change pm__law_drawn_change an__law_drawn_change cd__law_drawn_change ct__law_drawn_change), sl__law_drawn_change⟩)
    (c__law_drawn_change : PySem.W.codeIn K cd__law_drawn_change "_law_drawn_change" = true)
    (k__law_drawn_change : PySem.W.keepIn K (.ref fa__law_drawn_change) = true)
    (a__law_spliced : PySem.W.nsIn K mainGlobals "_law_spliced" = some (some (.ref fa__law_spliced)))
    (l__law_spliced : K.lookup fa__law_spliced = some ⟨oc__law_spliced, od__law_spliced, .func (PySem.W.fnOf "_law_spliced" "_law_spliced" (defArgs s__law_spliced) (defBody s__law_spliced) (defScope s__law_spliced) .none kV__law_spliced doc__law_spliced pm__law_spliced an__law_spliced cd__law_spliced ct__law_spliced), sl__law_spliced⟩)
    (c__law_spliced : PySem.W.codeIn K cd__law_spliced "_law_spliced" = true)
    (k__law_spliced : PySem.W.keepIn K (.ref fa__law_spliced) = true)
    (a__law_is_path : PySem.W.nsIn K mainGlobals "_law_is_path" = some (some (.ref fa__law_is_path)))
    (l__law_is_path : K.lookup fa__law_is_path = some ⟨oc__law_is_path, od__law_is_path, .func (PySem.W.fnOf "_law_is_path" "_law_is_path" (defArgs s__law_is_path) (defBody s__law_is_path) (defScope s__law_is_path) .none kV__law_is_path doc__law_is_path pm__law_is_path an__law_is_path cd__law_is_path ct__law_is_path), sl__law_is_path⟩)
    (c__law_is_path : PySem.W.codeIn K cd__law_is_path "_law_is_path" = true)
    (k__law_is_path : PySem.W.keepIn K (.ref fa__law_is_path) = true)
    (a_law : PySem.W.nsIn K mainGlobals "law" = some (some (.ref fa_law)))
    (l_law : K.lookup fa_law = some ⟨oc_law, od_law, .func (PySem.W.fnOf "law" "law" (defArgs s_law) (defBody s_law) (defScope s_law) .none kV_law doc_law pm_law an_law cd_law ct_law), sl_law⟩)
    (c_law : PySem.W.codeIn K cd_law "law" = true)
    (k_law : PySem.W.keepIn K (.ref fa_law) = true)
    (m_BYTE : PySem.W.nsIn K mainGlobals "BYTE" = some (some (.int 256 tk1)))
    (m_FIGURE : PySem.W.nsIn K mainGlobals "FIGURE" = some (some (.int 128 tk2)))
    (m_KEPT : PySem.W.nsIn K mainGlobals "KEPT" = some (some (.int 0 tk3)))
    (m_LEAST_KEPT : PySem.W.nsIn K mainGlobals "LEAST_KEPT" = some (some (.int 8 tk4)))
    (m_LEFT_OUT : PySem.W.nsIn K mainGlobals "LEFT_OUT" = some (some (.int 1 tk5)))
    (m_MOST_BYTES : PySem.W.nsIn K mainGlobals "MOST_BYTES" = some (some (.int 300000 tk6)))
    (m_MOST_FIGURES : PySem.W.nsIn K mainGlobals "MOST_FIGURES" = some (some (.int 10 tk7)))
    (m_PUT_IN : PySem.W.nsIn K mainGlobals "PUT_IN" = some (some (.int 2 tk8)))
    (m_WHOLE_BOUND : PySem.W.nsIn K mainGlobals "WHOLE_BOUND" = some (some (.int 18446744073709551616 tk9)))
    (n_all : PySem.W.nsIn K mainGlobals "all" = some none)
    (n_bool : PySem.W.nsIn K mainGlobals "bool" = some none)
    (n_int : PySem.W.nsIn K mainGlobals "int" = some none)
    (n_isinstance : PySem.W.nsIn K mainGlobals "isinstance" = some none)
    (n_len : PySem.W.nsIn K mainGlobals "len" = some none)
    (n_list : PySem.W.nsIn K mainGlobals "list" = some none)
    (n_min : PySem.W.nsIn K mainGlobals "min" = some none)
    (n_range : PySem.W.nsIn K mainGlobals "range" = some none)
    (n_tuple : PySem.W.nsIn K mainGlobals "tuple" = some none)
    (n_zip : PySem.W.nsIn K mainGlobals "zip" = some none)
    (m_WorldError : PySem.W.nsIn K mainGlobals "WorldError" = some (some (.ref A_WorldError)))
    (xq_WorldError : PySem.W.excIn K A_WorldError [.type "ValueError", .type "Exception", .type "BaseException", .type "object"] "ValueError.__new__" = true)
    (xk_WorldError : PySem.W.keepIn K (.ref A_WorldError) = true)
    (xb_WorldError : PySem.W.subIn K (.ref A_WorldError) (.type "BaseException") = some true)
    (xt_WorldError : PySem.W.typeIn K (.ref A_WorldError) = some (.type "type"))
    (m_NoRow : PySem.W.nsIn K mainGlobals "NoRow" = some (some (.ref A_NoRow)))
    (xq_NoRow : PySem.W.excIn K A_NoRow [.type "ValueError", .type "Exception", .type "BaseException", .type "object"] "ValueError.__new__" = true)
    (xk_NoRow : PySem.W.keepIn K (.ref A_NoRow) = true)
    (xb_NoRow : PySem.W.subIn K (.ref A_NoRow) (.type "BaseException") = some true)
    (xt_NoRow : PySem.W.typeIn K (.ref A_NoRow) = some (.type "type"))
    (m_BadChange : PySem.W.nsIn K mainGlobals "BadChange" = some (some (.ref A_BadChange)))
    (xl_BadChange : K.lookup A_BadChange = some (excClassObj nm_BadChange q_BadChange A_BadChange N_BadChange bs_BadChange [.ref bw0_BadChange, .type "ValueError", .type "Exception", .type "BaseException", .type "object"] true sn_BadChange sub_BadChange ab_BadChange col_BadChange dd_BadChange m0_BadChange m1_BadChange m2_BadChange m3_BadChange m5_BadChange "ValueError.__new__"))
    (sa_BadChange : PySem.W.findIn K (.ref A_BadChange) "__setattr__" = some (some (.builtin "object.__setattr__")))
    (ga_BadChange : PySem.W.findIn K (.ref A_BadChange) "__getattribute__" = some (some (.builtin "BaseException.__getattribute__")))
    (gg_BadChange : PySem.W.findIn K (.ref A_BadChange) "__getattr__" = some none)
    (xk_BadChange : PySem.W.keepIn K (.ref A_BadChange) = true)
    (xb_BadChange : PySem.W.subIn K (.ref A_BadChange) (.type "BaseException") = some true)
    (xt_BadChange : PySem.W.typeIn K (.ref A_BadChange) = some (.type "type"))
    (hd_BadChange : PySem.W.hasDictIn K A_BadChange = true)
    (nf_BadChange : PySem.W.findIn K (.ref A_BadChange) (Str.ofString "place") = some none)
    (i_BadChange : PySem.W.findIn K (.ref A_BadChange) "__init__" = some (some (.ref fi_BadChange)))
    (t_BadChange : PySem.W.typeIn K (.ref fi_BadChange) = some (.type "function"))
    (l_BadChange___init__ : K.lookup fi_BadChange = some ⟨oc_BadChange___init__, od_BadChange___init__, .func (PySem.W.fnOf "__init__" "BadChange.__init__" (defArgs s_BadChange___init__) (defBody s_BadChange___init__) (defScope s_BadChange___init__) .none kV_BadChange___init__ doc_BadChange___init__ pm_BadChange___init__ an_BadChange___init__ cd_BadChange___init__ ct_BadChange___init__), sl_BadChange___init__⟩)
    (c_BadChange___init__ : PySem.W.codeIn K cd_BadChange___init__ "BadChange.__init__" = true)
    (k_BadChange___init__ : PySem.W.keepIn K (.ref fi_BadChange) = true)
    (ic_BadChange : PySem.W.isClsIn K A_BadChange = true)
    (e_BadChange_BadChange : PySem.W.subIn K (.ref A_BadChange) (.ref A_BadChange) = some true)
    (e_NoRow_BadChange : PySem.W.subIn K (.ref A_NoRow) (.ref A_BadChange) = some false) : Tx K mg ⟨A_WorldError, A_NoRow, A_BadChange⟩ := {
    a_is_integer := fa_is_integer, fd_is_integer := _, F_is_integer := fun_mk (st := s_is_integer) l_is_integer c_is_integer k_is_integer
    m_is_integer := PySem.W.mg_of X G a_is_integer
    b_is_integer := (fun_mk (st := s_is_integer) l_is_integer c_is_integer k_is_integer).binds (ps := [Str.ofString "thing"]) fun _ _ _ _ _ _ us hl => match us, hl with | [_], _ => rfl
    a_is_within := fa_is_within, fd_is_within := _, F_is_within := fun_mk (st := s_is_within) l_is_within c_is_within k_is_within
    m_is_within := PySem.W.mg_of X G a_is_within
    b_is_within := (fun_mk (st := s_is_within) l_is_within c_is_within k_is_within).binds (ps := [Str.ofString "thing", Str.ofString "least", Str.ofString "most"]) fun _ _ _ _ _ _ us hl => match us, hl with | [_, _, _], _ => rfl
    a_is_below := fa_is_below, fd_is_below := _, F_is_below := fun_mk (st := s_is_below) l_is_below c_is_below k_is_below
    m_is_below := PySem.W.mg_of X G a_is_below
    b_is_below := (fun_mk (st := s_is_below) l_is_below c_is_below k_is_below).binds (ps := [Str.ofString "thing", Str.ofString "many"]) fun _ _ _ _ _ _ us hl => match us, hl with | [_, _], _ => rfl
    a_is_row := fa_is_row, fd_is_row := _, F_is_row := fun_mk (st := s_is_row) l_is_row c_is_row k_is_row
    m_is_row := PySem.W.mg_of X G a_is_row
    b_is_row := (fun_mk (st := s_is_row) l_is_row c_is_row k_is_row).binds (ps := [Str.ofString "thing"]) fun _ _ _ _ _ _ us hl => match us, hl with | [_], _ => rfl
    a_check_row := fa_check_row, fd_check_row := _, F_check_row := fun_mk (st := s_check_row) l_check_row c_check_row k_check_row
    m_check_row := PySem.W.mg_of X G a_check_row
    b_check_row := (fun_mk (st := s_check_row) l_check_row c_check_row k_check_row).binds (ps := [Str.ofString "thing"]) fun _ _ _ _ _ _ us hl => match us, hl with | [_], _ => rfl
    a_figures_of := fa_figures_of, fd_figures_of := _, F_figures_of := fun_mk (st := s_figures_of) l_figures_of c_figures_of k_figures_of
    m_figures_of := PySem.W.mg_of X G a_figures_of
    b_figures_of := (fun_mk (st := s_figures_of) l_figures_of c_figures_of k_figures_of).binds (ps := [Str.ofString "number"]) fun _ _ _ _ _ _ us hl => match us, hl with | [_], _ => rfl
    a_number_at := fa_number_at, fd_number_at := _, F_number_at := fun_mk (st := s_number_at) l_number_at c_number_at k_number_at
    m_number_at := PySem.W.mg_of X G a_number_at
    b_number_at := (fun_mk (st := s_number_at) l_number_at c_number_at k_number_at).binds (ps := [Str.ofString "row", Str.ofString "at"]) fun _ _ _ _ _ _ us hl => match us, hl with | [_, _], _ => rfl
    a_part_at := fa_part_at, fd_part_at := _, F_part_at := fun_mk (st := s_part_at) l_part_at c_part_at k_part_at
    m_part_at := PySem.W.mg_of X G a_part_at
    b_part_at := (fun_mk (st := s_part_at) l_part_at c_part_at k_part_at).binds (ps := [Str.ofString "change", Str.ofString "at"]) fun _ _ _ _ _ _ us hl => match us, hl with | [_, _], _ => rfl
    a_changed_or_wrong := fa_changed_or_wrong, fd_changed_or_wrong := _, F_changed_or_wrong := fun_mk (st := s_changed_or_wrong) l_changed_or_wrong c_changed_or_wrong k_changed_or_wrong
    m_changed_or_wrong := PySem.W.mg_of X G a_changed_or_wrong
    b_changed_or_wrong := (fun_mk (st := s_changed_or_wrong) l_changed_or_wrong c_changed_or_wrong k_changed_or_wrong).binds (ps := [Str.ofString "one", Str.ofString "change"]) fun _ _ _ _ _ _ us hl => match us, hl with | [_, _], _ => rfl
    a_changed := fa_changed, fd_changed := _, F_changed := fun_mk (st := s_changed) l_changed c_changed k_changed
    m_changed := PySem.W.mg_of X G a_changed
    b_changed := (fun_mk (st := s_changed) l_changed c_changed k_changed).binds (ps := [Str.ofString "one", Str.ofString "change"]) fun _ _ _ _ _ _ us hl => match us, hl with | [_, _], _ => rfl
    a_common_begin := fa_common_begin, fd_common_begin := _, F_common_begin := fun_mk (st := s_common_begin) l_common_begin c_common_begin k_common_begin
    m_common_begin := PySem.W.mg_of X G a_common_begin
    b_common_begin := (fun_mk (st := s_common_begin) l_common_begin c_common_begin k_common_begin).binds (ps := [Str.ofString "one", Str.ofString "other"]) fun _ _ _ _ _ _ us hl => match us, hl with | [_, _], _ => rfl
    a_common_end := fa_common_end, fd_common_end := _, F_common_end := fun_mk (st := s_common_end) l_common_end c_common_end k_common_end
    m_common_end := PySem.W.mg_of X G a_common_end
    b_common_end := (fun_mk (st := s_common_end) l_common_end c_common_end k_common_end).binds (ps := [Str.ofString "one", Str.ofString "other", Str.ofString "most"]) fun _ _ _ _ _ _ us hl => match us, hl with | [_, _, _], _ => rfl
    a_part_row := fa_part_row, fd_part_row := _, F_part_row := fun_mk (st := s_part_row) l_part_row c_part_row k_part_row
    m_part_row := PySem.W.mg_of X G a_part_row
    b_part_row := (fun_mk (st := s_part_row) l_part_row c_part_row k_part_row).binds (ps := [Str.ofString "kind", Str.ofString "many"]) fun _ _ _ _ _ _ us hl => match us, hl with | [_, _], _ => rfl
    a_change_of := fa_change_of, fd_change_of := _, F_change_of := fun_mk (st := s_change_of) l_change_of c_change_of k_change_of
    m_change_of := PySem.W.mg_of X G a_change_of
    b_change_of := (fun_mk (st := s_change_of) l_change_of c_change_of k_change_of).binds (ps := [Str.ofString "one", Str.ofString "other"]) fun _ _ _ _ _ _ us hl => match us, hl with | [_, _], _ => rfl
    a_change := fa_change, fd_change := _, F_change := fun_mk (st := s_change) l_change c_change k_change
    m_change := PySem.W.mg_of X G a_change
    b_change := (fun_mk (st := s_change) l_change c_change k_change).binds (ps := [Str.ofString "one", Str.ofString "other"]) fun _ _ _ _ _ _ us hl => match us, hl with | [_, _], _ => rfl
    a_is_change := fa_is_change, fd_is_change := _, F_is_change := fun_mk (st := s_is_change) l_is_change c_is_change k_is_change
    m_is_change := PySem.W.mg_of X G a_is_change
    b_is_change := (fun_mk (st := s_is_change) l_is_change c_is_change k_is_change).binds (ps := [Str.ofString "one", Str.ofString "other", Str.ofString "thing"]) fun _ _ _ _ _ _ us hl => match us, hl with | [_, _, _], _ => rfl
    a__law_hand := fa__law_hand, fd__law_hand := _, F__law_hand := fun_mk (st := s__law_hand) l__law_hand c__law_hand k__law_hand
    m__law_hand := PySem.W.mg_of X G a__law_hand
    b__law_hand := (fun_mk (st := s__law_hand) l__law_hand c__law_hand k__law_hand).binds (ps := [Str.ofString "_law_script"]) fun _ _ _ _ _ _ us hl => match us, hl with | [_], _ => rfl
    a__law_draw := fa__law_draw, fd__law_draw := _, F__law_draw := fun_mk (st := s__law_draw) l__law_draw c__law_draw k__law_draw
    m__law_draw := PySem.W.mg_of X G a__law_draw
    b__law_draw := (fun_mk (st := s__law_draw) l__law_draw c__law_draw k__law_draw).binds (ps := [Str.ofString "_law_hand_here", Str.ofString "_law_many"]) fun _ _ _ _ _ _ us hl => match us, hl with | [_, _], _ => rfl
    a__law_is := fa__law_is, fd__law_is := _, F__law_is := fun_mk (st := s__law_is) l__law_is c__law_is k__law_is
    m__law_is := PySem.W.mg_of X G a__law_is
    b__law_is := (fun_mk (st := s__law_is) l__law_is c__law_is k__law_is).binds (ps := [Str.ofString "_law_told", Str.ofString "_law_due"]) fun _ _ _ _ _ _ us hl => match us, hl with | [_, _], _ => rfl
    a__law_deep := fa__law_deep, fd__law_deep := _, F__law_deep := fun_mk (st := s__law_deep) l__law_deep c__law_deep k__law_deep
    m__law_deep := PySem.W.mg_of X G a__law_deep
    b__law_deep := (fun_mk (st := s__law_deep) l__law_deep c__law_deep k__law_deep).binds (ps := [Str.ofString "_law_hand_here"]) fun _ _ _ _ _ _ us hl => match us, hl with | [_], _ => rfl
    a__law_whole := fa__law_whole, fd__law_whole := _, F__law_whole := fun_mk (st := s__law_whole) l__law_whole c__law_whole k__law_whole
    m__law_whole := PySem.W.mg_of X G a__law_whole
    b__law_whole := (fun_mk (st := s__law_whole) l__law_whole c__law_whole k__law_whole).binds (ps := [Str.ofString "_law_number"]) fun _ _ _ _ _ _ us hl => match us, hl with | [_], _ => rfl
    a__law_read := fa__law_read, fd__law_read := _, F__law_read := fun_mk (st := s__law_read) l__law_read c__law_read k__law_read
    m__law_read := PySem.W.mg_of X G a__law_read
    b__law_read := (fun_mk (st := s__law_read) l__law_read c__law_read k__law_read).binds (ps := [Str.ofString "_law_row", Str.ofString "_law_at"]) fun _ _ _ _ _ _ us hl => match us, hl with | [_, _], _ => rfl
    a__law_byte := fa__law_byte, fd__law_byte := _, F__law_byte := fun_mk (st := s__law_byte) l__law_byte c__law_byte k__law_byte
    m__law_byte := PySem.W.mg_of X G a__law_byte
    b__law_byte := (fun_mk (st := s__law_byte) l__law_byte c__law_byte k__law_byte).binds (ps := [Str.ofString "_law_hand_here"]) fun _ _ _ _ _ _ us hl => match us, hl with | [_], _ => rfl
    a__law_bytes := fa__law_bytes, fd__law_bytes := _, F__law_bytes := fun_mk (st := s__law_bytes) l__law_bytes c__law_bytes k__law_bytes
    m__law_bytes := PySem.W.mg_of X G a__law_bytes
    b__law_bytes := (fun_mk (st := s__law_bytes) l__law_bytes c__law_bytes k__law_bytes).binds (ps := [Str.ofString "_law_hand_here", Str.ofString "_law_most"]) fun _ _ _ _ _ _ us hl => match us, hl with | [_, _], _ => rfl
    a__law_spoilt := fa__law_spoilt, fd__law_spoilt := _, F__law_spoilt := fun_mk (st := s__law_spoilt) l__law_spoilt c__law_spoilt k__law_spoilt
    m__law_spoilt := PySem.W.mg_of X G a__law_spoilt
    b__law_spoilt := (fun_mk (st := s__law_spoilt) l__law_spoilt c__law_spoilt k__law_spoilt).binds (ps := [Str.ofString "_law_hand_here", Str.ofString "_law_row"]) fun _ _ _ _ _ _ us hl => match us, hl with | [_, _], _ => rfl
    a__law_become := fa__law_become, fd__law_become := _, F__law_become := fun_mk (st := s__law_become) l__law_become c__law_become k__law_become
    m__law_become := PySem.W.mg_of X G a__law_become
    b__law_become := (fun_mk (st := s__law_become) l__law_become c__law_become k__law_become).binds (ps := [Str.ofString "_law_one", Str.ofString "_law_some"]) fun _ _ _ _ _ _ us hl => match us, hl with | [_, _], _ => rfl
    a__law_changed_told := fa__law_changed_told, fd__law_changed_told := _, F__law_changed_told := fun_mk (st := s__law_changed_told) l__law_changed_told c__law_changed_told k__law_changed_told
    m__law_changed_told := PySem.W.mg_of X G a__law_changed_told
    b__law_changed_told := (fun_mk (st := s__law_changed_told) l__law_changed_told c__law_changed_told k__law_changed_told).binds (ps := [Str.ofString "_law_one", Str.ofString "_law_some"]) fun _ _ _ _ _ _ us hl => match us, hl with | [_, _], _ => rfl
    a__law_is_told := fa__law_is_told, fd__law_is_told := _, F__law_is_told := fun_mk (st := s__law_is_told) l__law_is_told c__law_is_told k__law_is_told
    m__law_is_told := PySem.W.mg_of X G a__law_is_told
    b__law_is_told := (fun_mk (st := s__law_is_told) l__law_is_told c__law_is_told k__law_is_told).binds (ps := [Str.ofString "_law_one", Str.ofString "_law_other", Str.ofString "_law_some"]) fun _ _ _ _ _ _ us hl => match us, hl with | [_, _, _], _ => rfl
    a__law_drawn_change := fa__law_drawn_change, fd__law_drawn_change := _, F__law_drawn_change := fun_mk (st := s__law_drawn_change) l__law_drawn_change c__law_drawn_change k__law_drawn_change
    m__law_drawn_change := PySem.W.mg_of X G a__law_drawn_change
    b__law_drawn_change := (fun_mk (st := s__law_drawn_change) l__law_drawn_change c__law_drawn_change k__law_drawn_change).binds (ps := [Str.ofString "_law_hand_here", Str.ofString "_law_one"]) fun _ _ _ _ _ _ us hl => match us, hl with | [_, _], _ => rfl
    a__law_spliced := fa__law_spliced, fd__law_spliced := _, F__law_spliced := fun_mk (st := s__law_spliced) l__law_spliced c__law_spliced k__law_spliced
    m__law_spliced := PySem.W.mg_of X G a__law_spliced
    b__law_spliced := (fun_mk (st := s__law_spliced) l__law_spliced c__law_spliced k__law_spliced).binds (ps := [Str.ofString "_law_hand_here", Str.ofString "_law_row"]) fun _ _ _ _ _ _ us hl => match us, hl with | [_, _], _ => rfl
    a__law_is_path := fa__law_is_path, fd__law_is_path := _, F__law_is_path := fun_mk (st := s__law_is_path) l__law_is_path c__law_is_path k__law_is_path
    m__law_is_path := PySem.W.mg_of X G a__law_is_path
    b__law_is_path := (fun_mk (st := s__law_is_path) l__law_is_path c__law_is_path k__law_is_path).binds (ps := [Str.ofString "_law_one", Str.ofString "_law_other"]) fun _ _ _ _ _ _ us hl => match us, hl with | [_, _], _ => rfl
    a_law := fa_law, fd_law := _, F_law := fun_mk (st := s_law) l_law c_law k_law
    m_law := PySem.W.mg_of X G a_law
    b_law := (fun_mk (st := s_law) l_law c_law k_law).binds (ps := [Str.ofString "_law_script"]) fun _ _ _ _ _ _ us hl => match us, hl with | [_], _ => rfl
    u_BYTE := _, m_BYTE := PySem.W.mg_of X G m_BYTE, v_BYTE := v_int
    u_FIGURE := _, m_FIGURE := PySem.W.mg_of X G m_FIGURE, v_FIGURE := v_int
    u_KEPT := _, m_KEPT := PySem.W.mg_of X G m_KEPT, v_KEPT := v_int
    u_LEAST_KEPT := _, m_LEAST_KEPT := PySem.W.mg_of X G m_LEAST_KEPT, v_LEAST_KEPT := v_int
    u_LEFT_OUT := _, m_LEFT_OUT := PySem.W.mg_of X G m_LEFT_OUT, v_LEFT_OUT := v_int
    u_MOST_BYTES := _, m_MOST_BYTES := PySem.W.mg_of X G m_MOST_BYTES, v_MOST_BYTES := v_int
    u_MOST_FIGURES := _, m_MOST_FIGURES := PySem.W.mg_of X G m_MOST_FIGURES, v_MOST_FIGURES := v_int
    u_PUT_IN := _, m_PUT_IN := PySem.W.mg_of X G m_PUT_IN, v_PUT_IN := v_int
    u_WHOLE_BOUND := _, m_WHOLE_BOUND := PySem.W.mg_of X G m_WHOLE_BOUND, v_WHOLE_BOUND := v_int
    n_all := PySem.W.mg_none_of X G n_all
    n_bool := PySem.W.mg_none_of X G n_bool
    n_int := PySem.W.mg_none_of X G n_int
    n_isinstance := PySem.W.mg_none_of X G n_isinstance
    n_len := PySem.W.mg_none_of X G n_len
    n_list := PySem.W.mg_none_of X G n_list
    n_min := PySem.W.mg_none_of X G n_min
    n_range := PySem.W.mg_none_of X G n_range
    n_tuple := PySem.W.mg_none_of X G n_tuple
    n_zip := PySem.W.mg_none_of X G n_zip
    m_WorldError := PySem.W.mg_of X G m_WorldError
    x_WorldError := ⟨xq_WorldError, xk_WorldError, xb_WorldError, xt_WorldError⟩
    m_NoRow := PySem.W.mg_of X G m_NoRow
    x_NoRow := ⟨xq_NoRow, xk_NoRow, xb_NoRow, xt_NoRow⟩
    m_BadChange := PySem.W.mg_of X G m_BadChange
    o_BadChange := ⟨⟨_, _, _, _, _, _, _, _, _, _, _, _, _, _, _, xl_BadChange, (ve_step ve_base)⟩, sa_BadChange, xb_BadChange, xt_BadChange, xk_BadChange⟩
    z_BadChange := ⟨ga_BadChange, gg_BadChange, xb_BadChange, hd_BadChange⟩, nf_BadChange := nf_BadChange, ai_BadChange := fi_BadChange, fdi_BadChange := _, i_BadChange := i_BadChange, t_BadChange := t_BadChange
    Fi_BadChange := fun_mk (st := s_BadChange___init__) l_BadChange___init__ c_BadChange___init__ k_BadChange___init__
    bi_BadChange := (fun_mk (st := s_BadChange___init__) l_BadChange___init__ c_BadChange___init__ k_BadChange___init__).binds (ps := [Str.ofString "self", Str.ofString "place"]) fun _ _ _ _ _ _ us hl => match us, hl with | [_, _], _ => rfl
    e_BadChange_BadChange := exm_mk xb_BadChange ic_BadChange xt_BadChange e_BadChange_BadChange
    e_NoRow_BadChange := exm_mk xb_BadChange ic_BadChange xt_BadChange e_NoRow_BadChange }
theorem law_mk {P : Program} {w : World} {K : PySem.W.Frag} {h : Heap} {mg : Str → Option Value} {A : Ad} {fa : Addr} (hfa : mg "law" = some (.ref fa)) (T : Tx K mg A) :
    ∃ fd : FuncData, (∀ (s : Shared) (v : Value), BindsTo s fd ⟨[v], []⟩ [(Str.ofString "_law_script", v)]) ∧ ∀ base : Heap, K.In base → base.Ns mainGlobals mg → FnD P w K mg base 9 fa fd [Str.ofString "_law_script"] spLaw := by
  have e := hfa.symm.trans T.m_law
  cases e
  refine ⟨T.fd_law, fun s v => ?_, fun base _ _ => all_mk_ok T⟩
  obtain ⟨oc, od, kV, doc, pm, an, cdv, ct, osl, e, _, _⟩ := T.F_law.ex
  rw [e]
  exact .of_eq rfl
end Lw
open PySem PySem.W PyProof.Rows
set_option maxRecDepth 100000 in
set_option maxHeartbeats 0 in
theorem PySem.Challenge.cw_guessedworlds_k25_whole_changes_of_rows_holds : PySem.Challenge.rw_guessedworlds_k25_whole_changes_of_rows.Holds := by
  w_on; o_law; k_head; (case hw => w_witness2)
  k_fill
  refine L2.walk_of (l := PySem.Challenge.rw_guessedworlds_k25_whole_changes_of_rows) (n := 63) (k := 9) (x := "_law_script") (CX := fun w => L2.CX PySem.Challenge.rw_guessedworlds_k25_whole_changes_of_rows.prog w) (sp := fun w => VD.lowF _ VD.spLaw) rfl (by decide) rfl ⟨rfl, by decide, by decide⟩ (fun w h Y => PySem.W.kIn_of Y) ?F (fun _ _ a ns hl hO hS => VD.law_in hl hO hS) (fun _ H s e s' h => VD.law_out H s e s' h)
  case F =>
    intro w mg fa h KX G hmg
    refine' Lw.law_mk (h := h) hmg (Lw.tx_mk KX G ?a_is_integer ?l_is_integer ?c_is_integer ?k_is_integer ?a_is_within ?l_is_within ?c_is_within ?k_is_within ?a_is_below ?l_is_below ?c_is_below ?k_is_below ?a_is_row ?l_is_row ?c_is_row ?k_is_row ?a_check_row ?l_check_row ?c_check_row ?k_check_row ?a_figures_of ?l_figures_of ?c_figures_of ?k_figures_of ?a_number_at ?l_number_at ?c_number_at ?k_number_at ?a_part_at ?l_part_at ?c_part_at ?k_part_at ?a_changed_or_wrong ?l_changed_or_wrong ?c_changed_or_wrong ?k_changed_or_wrong ?a_changed ?l_changed ?c_changed ?k_changed ?a_common_begin ?l_common_begin ?c_common_begin ?k_common_begin ?a_common_end ?l_common_end ?c_common_end ?k_common_end ?a_part_row ?l_part_row ?c_part_row ?k_part_row ?a_change_of ?l_change_of ?c_change_of ?k_change_of ?a_change ?l_change ?c_change ?k_change ?a_is_change ?l_is_change ?c_is_change ?k_is_change ?a__law_hand ?l__law_hand ?c__law_hand ?k__law_hand ?a__law_draw ?l__law_draw ?c__law_draw ?k__law_draw ?a__law_is ?l__law_is ?c__law_is ?k__law_is ?a__law_deep ?l__law_deep ?c__law_deep ?k__law_deep ?a__law_whole ?l__law_whole ?c__law_whole ?k__law_whole ?a__law_read ?l__law_read ?c__law_read ?k__law_read ?a__law_byte ?l__law_byte ?c__law_byte ?k__law_byte ?a__law_bytes ?l__law_bytes ?c__law_bytes ?k__law_bytes ?a__law_spoilt ?l__law_spoilt ?c__law_spoilt ?k__law_spoilt ?a__law_become ?l__law_become ?c__law_become ?k__law_become ?a__law_changed_told ?l__law_changed_told ?c__law_changed_told ?k__law_changed_told ?a__law_is_told ?l__law_is_told ?c__law_is_told ?k__law_is_told ?a__law_drawn_change ?l__law_drawn_change ?c__law_drawn_change ?k__law_drawn_change ?a__law_spliced ?l__law_spliced ?c__law_spliced ?k__law_spliced ?a__law_is_path ?l__law_is_path ?c__law_is_path ?k__law_is_path ?a_law ?l_law ?c_law ?k_law ?m_BYTE ?m_FIGURE ?m_KEPT ?m_LEAST_KEPT ?m_LEFT_OUT ?m_MOST_BYTES ?m_MOST_FIGURES ?m_PUT_IN ?m_WHOLE_BOUND ?n_all ?n_bool ?n_int ?n_isinstance ?n_len ?n_list ?n_min ?n_range ?n_tuple ?n_zip ?m_WorldError ?xq_WorldError ?xk_WorldError ?xb_WorldError ?xt_WorldError ?m_NoRow ?xq_NoRow ?xk_NoRow ?xb_NoRow ?xt_NoRow ?m_BadChange ?xl_BadChange ?sa_BadChange ?ga_BadChange ?gg_BadChange ?xk_BadChange ?xb_BadChange ?xt_BadChange ?hd_BadChange ?nf_BadChange ?i_BadChange ?t_BadChange ?l_BadChange___init__ ?c_BadChange___init__ ?k_BadChange___init__ ?ic_BadChange ?e_BadChange_BadChange ?e_NoRow_BadChange)
    (case a_is_integer => k_is); (case l_is_integer => k_is); (case c_is_integer => k_is); (case k_is_integer => k_is); (case a_is_within => k_is); (case l_is_within => k_is); (case c_is_within => k_is); (case k_is_within => k_is); (case a_is_below => k_is); (case l_is_below => k_is); (case c_is_below => k_is); (case k_is_below => k_is); (case a_is_row => k_is); (case l_is_row => k_is); (case c_is_row => k_is); (case k_is_row => k_is); (case a_check_row => k_is); (case l_check_row => k_is); (case c_check_row => k_is); (case k_check_row => k_is); (case a_figures_of => k_is); (case l_figures_of => k_is); (case c_figures_of => k_is); (case k_figures_of => k_is); (case a_number_at => k_is); (case l_number_at => k_is); (case c_number_at => k_is); (case k_number_at => k_is); (case a_part_at => k_is); (case l_part_at => k_is); (case c_part_at => k_is); (case k_part_at => k_is); (case a_changed_or_wrong => k_is); (case l_changed_or_wrong => k_is); (case c_changed_or_wrong => k_is); (case k_changed_or_wrong => k_is); (case a_changed => k_is); (case l_changed => k_is); (case c_changed => k_is); (case k_changed => k_is); (case a_common_begin => k_is); (case l_common_begin => k_is); (case c_common_begin => k_is); (case k_common_begin => k_is); (case a_common_end => k_is); (case l_common_end => k_is); (case c_common_end => k_is); (case k_common_end => k_is); (case a_part_row => k_is); (case l_part_row => k_is); (case c_part_row => k_is); (case k_part_row => k_is); (case a_change_of => k_is); (case l_change_of => k_is); (case c_change_of => k_is); (case k_change_of => k_is); (case a_change => k_is); (case l_change => k_is); (case c_change => k_is); (case k_change => k_is); (case a_is_change => k_is); (case l_is_change => k_is); (case c_is_change => k_is); (case k_is_change => k_is); (case a__law_hand => k_is); (case l__law_hand => k_is); (case c__law_hand => k_is); (case k__law_hand => k_is); (case a__law_draw => k_is); (case l__law_draw => k_is); (case c__law_draw => k_is); (case k__law_draw => k_is); (case a__law_is => k_is); (case l__law_is => k_is); (case c__law_is => k_is); (case k__law_is => k_is); (case a__law_deep => k_is); (case l__law_deep => k_is); (case c__law_deep => k_is); (case k__law_deep => k_is); (case a__law_whole => k_is); (case l__law_whole => k_is); (case c__law_whole => k_is); (case k__law_whole => k_is); (case a__law_read => k_is); (case l__law_read => k_is); (case c__law_read => k_is); (case k__law_read => k_is); (case a__law_byte => k_is); (case l__law_byte => k_is); (case c__law_byte => k_is); (case k__law_byte => k_is); (case a__law_bytes => k_is); (case l__law_bytes => k_is); (case c__law_bytes => k_is); (case k__law_bytes => k_is); (case a__law_spoilt => k_is); (case l__law_spoilt => k_is); (case c__law_spoilt => k_is); (case k__law_spoilt => k_is); (case a__law_become => k_is); (case l__law_become => k_is); (case c__law_become => k_is); (case k__law_become => k_is); (case a__law_changed_told => k_is); (case l__law_changed_told => k_is); (case c__law_changed_told => k_is); (case k__law_changed_told => k_is); (case a__law_is_told => k_is); (case l__law_is_told => k_is); (case c__law_is_told => k_is); (case k__law_is_told => k_is); (case a__law_drawn_change => k_is); (case l__law_drawn_change => k_is); (case c__law_drawn_change => k_is); (case k__law_drawn_change => k_is); (case a__law_spliced => k_is); (case l__law_spliced => k_is); (case c__law_spliced => k_is); (case k__law_spliced => k_is); (case a__law_is_path => k_is); (case l__law_is_path => k_is); (case c__law_is_path => k_is); (case k__law_is_path => k_is); (case a_law => k_is); (case l_law => k_is); (case c_law => k_is); (case k_law => k_is); (case m_BYTE => k_is); (case m_FIGURE => k_is); (case m_KEPT => k_is); (case m_LEAST_KEPT => k_is); (case m_LEFT_OUT => k_is); (case m_MOST_BYTES => k_is); (case m_MOST_FIGURES => k_is); (case m_PUT_IN => k_is); (case m_WHOLE_BOUND => k_is); (case n_all => k_is); (case n_bool => k_is); (case n_int => k_is); (case n_isinstance => k_is); (case n_len => k_is); (case n_list => k_is); (case n_min => k_is); (case n_range => k_is); (case n_tuple => k_is); (case n_zip => k_is); (case m_WorldError => k_is); (case xq_WorldError => k_exc); (case xk_WorldError => k_is); (case xb_WorldError => k_is); (case xt_WorldError => k_is); (case m_NoRow => k_is); (case xq_NoRow => k_exc); (case xk_NoRow => k_is); (case xb_NoRow => k_is); (case xt_NoRow => k_is); (case m_BadChange => k_is); (case xl_BadChange => k_is); (case sa_BadChange => k_is); (case ga_BadChange => k_is); (case gg_BadChange => k_is); (case xk_BadChange => k_is); (case xb_BadChange => k_is); (case xt_BadChange => k_is); (case hd_BadChange => k_is); (case nf_BadChange => k_is); (case i_BadChange => k_is); (case t_BadChange => k_is); (case l_BadChange___init__ => k_is); (case c_BadChange___init__ => k_is); (case k_BadChange___init__ => k_is); (case ic_BadChange => k_is); (case e_BadChange_BadChange => k_is); (case e_NoRow_BadChange => k_is)
